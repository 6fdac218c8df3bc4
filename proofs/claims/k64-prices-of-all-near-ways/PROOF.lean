import PyProof.Rows.All
import HandS.ForMost
import HandS.TupAny
import HandS.TupMul
import HandS.More
import HandS.Style
import HandS.Flt
import KE.DataMinMax
import KE.KIndexOf
import KE.SortData
import HandS.Ends
import PyProof.ReprRoads
import PyProof.Rows.StrBoot
import PyProof.FitsInt
import PySem.Challenge.RW_heardagain_k64_prices_of_all_near_ways
set_option Elab.async false
set_option linter.all false
set_option maxRecDepth 100000
set_option maxHeartbeats 4000000
/-! DL, part 0: tuples whose object is known to bear no dict of its own (PlT); the rules that make them. -/
namespace DL
open PySem PySem.Spec PyProof.Rows L2
abbrev Fr8 := PySem.W.Frag
def PlT (K : Fr8) (H : Hp) (a : Addr) (xs : List V) : Prop :=
  (∃ o : Obj, H a = some (.frz o (.tup xs)) ∧ o.dict = none) ∨
    ∃ (o : Obj) (its : Array Value) (n : Nat), K.lookup a = some o ∧ o.cls = .type "tuple" ∧ o.dict = none ∧ o.data = .seq its n ∧ its.size ≤ sizeLine ∧ Vals xs its.toList
theorem PlT.sq {K : Fr8} {H : Hp} {a : Addr} {xs : List V} (h : PlT K H a xs) : SqT K H a xs := by
  rcases h with ⟨o, h, _⟩ | ⟨o, its, n, h1, h2, _, h3, h4, h5⟩
  · exact .inl (.inr ⟨o, h⟩)
  · exact .inr ⟨o, its, n, h1, h2, h3, h4, h5⟩
theorem PlT.mono {K : Fr8} {S S' : Hp} {a : Addr} {xs : List V} (m : Same S S') (h : PlT K S a xs) : PlT K S' a xs := by
  rcases h with ⟨o, h, d⟩ | h
  · exact .inl ⟨o, m _ _ h, d⟩
  · exact .inr h
/-- a new plain tuple -/
abbrev plO (its : List Value) : Obj := { cls := .type "tuple", data := .seq its.toArray }
section
variable {X : Cx} {pins : List (Addr × Obj)} {σ : List (Option V)} {H : Hp} {s : Shared}
theorem inv_layT {h' : Heap} {tk : Nat} {a : Addr} {xs : List V} {its : List Value} (I : Inv X pins σ H s) (k : ∀ b u, s.heap.get? b = some u → h'.get? b = some u) (hp : s.heap.objs.size ≤ a) (r : Vals xs its) (hz : xs.length ≤ sizeLine) (e : h'.get? a = some (plO its)) :
    Inv X pins σ (upd H a (.frz (plO its) (.tup xs))) { s with heap := h', toks := tk } := I.laid k hp ⟨e, hz, its, r, ⟨_, e, rfl, _, rfl⟩⟩
/-- the wish of a new plain tuple -/
def NewT (H : Hp) (xs : List V) (Q : VK) : Prop := ∀ (q : Addr) (o : Obj), H q = none → o.dict = none → Q (.ref q) (upd H q (.frz o (.tup xs)))
variable {es : List Expr} {pos : Pos} {e : Expr}
def tTupP (t : TA) : TE := fun σ H Q => t σ H fun xs H1 => xs.length ≤ sizeLine ∧ NewT H1 xs Q
theorem pe_tupP {x1} {t : TA} (h : PA X es t) : PE X (.Tuple es x1 pos) (tTupP t) := by
  refine ⟨fun pins s σ H Q I hq => ?_⟩
  refine wpAny_Tuple_spliced (thn (h.run pos pins s σ H _ I hq) fun us s1 ⟨xs, H1, I1, r, z, q⟩ => ⟨by rw [← r.length]; exact z, ?_⟩)
  exact ⟨.ref s1.heap.objs.size, _, inv_layT (its := us) (tk := s1.toks) I1 (fun b u e => Heap.get?_push_of_some _ e) (Nat.le_refl _) r z (Heap.get?_push_size _ rfl), rfl, q _ _ (I1.hok.fresh (Nat.le_refl _)) rfl⟩
def rTupOfP (K : Fr8) : List V → Hp → VK → Prop := fun xs H Q => ∃ p ys, xs = [.ref p] ∧ ((SqL K H p ys ∧ NewT H ys Q) ∨ (SqT K H p ys ∧ Q (.ref p) H))
theorem call_tupleP : CallR X (.type "tuple") (rTupOfP X.K) := by
  intro pins s σ H xs us Q I r h
  obtain ⟨p, ys, rfl, h⟩ := h
  obtain ⟨u, rfl, rx⟩ := vals1 r
  cases rx
  rcases h with ⟨hq, q⟩ | ⟨hq, q⟩
  · obtain ⟨its, r', pl, hz⟩ := I.list hq
    have hl := r'.length
    refine call_tuple_list pl.isList (fun h' kp => ?_) (by simp only [List.size_toArray] <;> omega)
    have I1 : Inv X pins σ H { s with heap := h' } := I.kept (t' := s.toks) kp
    exact ⟨.ref h'.objs.size, _, inv_layT (its := its) (tk := s.toks) (s := { s with heap := h' }) (a := h'.objs.size) I1 (fun b o e => Heap.get?_push_of_some _ e) (Nat.le_refl _) r' hz (Heap.get?_push_size _ rfl), rfl, q _ _ (I1.hok.fresh (Nat.le_refl _)) rfl⟩
  · obtain ⟨its, r', pl, hz⟩ := I.tuple hq
    exact call_tuple_same pl ⟨.ref p, H, I, rfl, q⟩
def rCatP (K : Fr8) : R2 := fun x y H Q => ∃ a b xs ys, x = .ref a ∧ y = .ref b ∧ SqT K H a xs ∧ SqT K H b ys ∧ xs.length + ys.length ≤ sizeLine ∧
  (xs = [] → Q (.ref b) H) ∧ (xs ≠ [] → ys = [] → Q (.ref a) H) ∧ (xs ≠ [] → ys ≠ [] → NewT H (xs ++ ys) Q)
theorem op_catP : OpR X (binaryOp .Add) (rCatP X.K) := by
  intro pins s σ H x y v u Q I rx ry h
  obtain ⟨a, b, xs, ys, rfl, rfl, ha, hb, hz, q0, q1, q2⟩ := h
  cases rx
  cases ry
  obtain ⟨its, r1, p1, _⟩ := I.tuple ha
  obtain ⟨its2, r2, p2, _⟩ := I.tuple hb
  by_cases hx : xs = []
  · subst hx
    cases r1
    exact cat_tup0 p1 p2 ⟨.ref b, H, I, rfl, q0 rfl⟩
  · refine HT.cat_tup p1 p2 (fun z => hx (r1.nil_iff.mp z)) (fun z => ⟨.ref a, H, I, rfl, q1 hx (r2.nil_iff.mp z)⟩) (fun z => ?_) (by rw [← r1.length, ← r2.length]; exact hz)
    exact ⟨.ref s.heap.objs.size, _, inv_layT (its := its ++ its2) (tk := s.toks) I (fun b ob q => Heap.get?_push_of_some _ q) (Nat.le_refl _) (r1.append r2) (by rw [List.length_append]; exact hz) (Heap.get?_push_size _ rfl), rfl, q2 hx (fun w => z (r2.nil_iff.mpr w)) _ _ (I.hok.fresh (Nat.le_refl _)) rfl⟩
def rSlP (K : Fr8) : V → Option Int → Option Int → Hp → VK → Prop := fun x lo hi H Q => ∃ a xs, x = .ref a ∧ SqT K H a xs ∧
  (HT.sIx xs.length 0 lo = 0 ∧ HT.sIx xs.length xs.length hi = xs.length → Q (.ref a) H) ∧ (¬ (HT.sIx xs.length 0 lo = 0 ∧ HT.sIx xs.length xs.length hi = xs.length) → NewT H (cutV xs lo hi) Q)
theorem sl_tupP : SlR X (rSlP X.K) := by
  intro pins s σ H x v vl vu lo hi sl Q I rx hs pl pu h
  obtain ⟨a, xs, rfl, hx, q1, q2⟩ := h
  cases rx
  obtain ⟨its, r, ht, hz⟩ := I.tuple hx
  have hl : its.toArray.size = xs.length := by rw [List.size_toArray]; exact r.length.symm
  refine ⟨"tuple", _, PyProof.Rows.slot_tuple_getitem.lookup, ht.typeIs, ?_⟩
  by_cases hw : HT.sIx xs.length 0 lo = 0 ∧ HT.sIx xs.length xs.length hi = xs.length
  · exact getItem_tuple_whole ht hs pl pu (by rw [hl]; exact hw) ⟨.ref a, H, I, rfl, q1 hw⟩
  · refine HT.getItem_tuple_cut ht hs pl pu (by rw [hl]; exact hw) ?_ (by rw [hl]; exact hz)
    rw [hl]
    exact ⟨.ref s.heap.objs.size, _, inv_layT (xs := cutV xs lo hi) (tk := s.toks) I (fun b ob q => Heap.get?_push_of_some _ q) (Nat.le_refl _) ((r.drop (HT.sIx xs.length 0 lo)).take (HT.sIx xs.length xs.length hi - HT.sIx xs.length 0 lo)) (Nat.le_trans (cutV_length xs lo hi) hz) (Heap.get?_push_size _ rfl), rfl, q2 hw _ _ (I.hok.fresh (Nat.le_refl _)) rfl⟩
def rRepP (K : Fr8) : R2 := fun x y H Q => ∃ l k xs, x = .ref l ∧ y = .int k ∧ SqT K H l xs ∧ xs ≠ [] ∧ 2 ≤ k ∧ k ≤ 1000 ∧ xs.length ≤ 1000 ∧ NewT H (List.replicate k.toNat xs).flatten Q
theorem op_repP : OpR X (binaryOp .Mult) (rRepP X.K) := by
  intro pins s σ H x y v u Q I rx ry h
  obtain ⟨l, k, xs, rfl, rfl, hT, hne, h1, h2, hz, q⟩ := h
  cases rx
  obtain ⟨t, rfl⟩ := ry
  obtain ⟨its, r, ⟨⟨cls, dd, data, sl⟩, ho, hc, n, hd⟩, hs⟩ := I.tuple hT
  simp only at hc hd
  subst hc hd
  have hle : its.length = xs.length := r.length.symm
  have hn : its ≠ [] := fun e => hne (List.eq_nil_of_length_eq_zero (by rw [← hle, e]; rfl))
  have hi : its.toArray.isEmpty = false := by
    cases its with
    | nil => exact absurd rfl hn
    | cons a b => rfl
  have hs0 : its.toArray.size = xs.length := by rw [List.size_toArray, hle]
  have a0 : ((xs.length : Nat) : Int) * k ≤ 1000 * k := Int.mul_le_mul_of_nonneg_right (by omega) (by omega)
  have hm : ((its.toArray.size : Nat) : Int) * k ≤ 1000000 := by rw [hs0]; omega
  have a1 : k.toNat * xs.length ≤ 1000 * 1000 := Nat.mul_le_mul (by omega) hz
  have fl : (List.replicate k.toNat its).flatten.length ≤ sizeLine := by
    rw [PyProof.Rows.lm_len_rep_flat, hle, sizeLine_eq]; omega
  have fx : (List.replicate k.toNat xs).flatten.length ≤ sizeLine := by
    rw [PyProof.Rows.lm_len_rep_flat, sizeLine_eq]; omega
  have c0 : (decide (k < -(2 ^ 63)) || decide (k ≥ 2 ^ 63)) = false := by
    rw [decide_eq_false (by omega), decide_eq_false (by omega)] <;> rfl
  have c1 : (its.toArray.isEmpty || k == 1) = false := by
    rw [hi, Bool.false_or]; exact beq_eq_false_iff_ne.mpr (by omega)
  have c2 : (decide (k ≤ 0) || its.toArray.isEmpty) = false := by
    rw [hi, Bool.or_false]; exact decide_eq_false (by omega)
  have c4 : Builtin.Tuple.tupleTooMany (((its.toArray.size : Nat) : Int) * k) = false := by
    unfold Builtin.Tuple.tupleTooMany; rw [sizeLine_eq]; exact decide_eq_false (by omega)
  refine wpAny_binaryOp_repeat_ref (T := "tuple") (U := "int") (by decide) ⟨_, ho, rfl⟩ (fun s' => typeIs_int s' k t) noFill_tuple_mul F.fills_int_mul F.slot_int_rmul repeat_tuple F.slot_int_index.lookup
    (call_meets F.slot_int_rmul (typeIs_int s k t) F.entry_int_rmul (F.args_int_rmul_2 _ _) (int_rmul_tuple k t l its.toArray n dd sl)
      ⟨ho, rfl, ⟨_, ho, rfl⟩, call_meets F.slot_tuple_mul ⟨_, ho, rfl⟩ F.entry_tuple_mul (F.args_tuple_mul_2 _ _) (tuple_mulW l its.toArray n dd sl k t c0 c1 c2 (by omega) c4 (by rw [size_rep, List.size_toArray]; exact fl)) ⟨ho, ?_⟩⟩)
  rw [size_rep]
  exact ⟨.ref s.heap.objs.size, _, inv_layT (its := (List.replicate k.toNat its).flatten) (tk := s.toks) I (fun b ob q => Heap.get?_push_of_some _ q) (Nat.le_refl _) (r.rep k.toNat) fx (Heap.get?_push_size _ rfl), rfl, q _ _ (I.hok.fresh (Nat.le_refl _)) rfl⟩
end
end DL

set_option Elab.async false
set_option linter.all false
set_option maxRecDepth 100000
set_option maxHeartbeats 4000000
/-! DL, part a: data that lies shared in the heap (Rep), slots (SV), the state's relation (Rl). -/
namespace DL
open PySem PySem.Spec PyProof.Rows L2
abbrev D := PyData
mutual
inductive Rep (K : Fr8) (S : Hp) : V → D → Prop
  | non : Rep K S .non .none
  | bl (b : Bool) : Rep K S (.bl b) (.bool b)
  | int (i : Int) : Rep K S (.int i) (.int i)
  | str (x : Str) : Rep K S (.str x) (.str x)
  | lst {a : Addr} {xs : List V} {ds : List D} : S a = some (.lst xs) → RepA K S xs ds → Rep K S (.ref a) (.list ds)
  | tup {a : Addr} {xs : List V} {ds : List D} : PlT K S a xs → RepA K S xs ds → Rep K S (.ref a) (.tuple ds)
  | dic {a : Addr} : S a = some (.dK []) → Rep K S (.ref a) (.dict [])
inductive RepA (K : Fr8) (S : Hp) : List V → List D → Prop
  | nil : RepA K S [] []
  | cons {v : V} {vs : List V} {d : D} {ds : List D} : Rep K S v d → RepA K S vs ds → RepA K S (v :: vs) (d :: ds)
end
section
variable {K : Fr8} {S S' H H' : Hp}
theorem sqT_mono {a : Addr} {xs : List V} (m : Same S S') (h : SqT K S a xs) : SqT K S' a xs := by
  rcases h with (h | ⟨o, h⟩) | h
  · exact .inl (.inl (m _ _ h))
  · exact .inl (.inr ⟨o, m _ _ h⟩)
  · exact .inr h
mutual
theorem Rep.mono (m : Same S S') : ∀ {d : D} {v : V}, Rep K S v d → Rep K S' v d
  | .none, _, h => by cases h; exact .non
  | .bool b, _, h => by cases h; exact .bl b
  | .int i, _, h => by cases h; exact .int i
  | .str x, _, h => by cases h; exact .str x
  | .list ds, _, h => by cases h with | lst h1 h2 => exact .lst (m _ _ h1) (RepA.mono m h2)
  | .tuple ds, _, h => by cases h with | tup h1 h2 => exact .tup (h1.mono m) (RepA.mono m h2)
  | .dict _, _, h => by cases h with | dic h1 => exact .dic (m _ _ h1)
theorem RepA.mono (m : Same S S') : ∀ {ds : List D} {vs : List V}, RepA K S vs ds → RepA K S' vs ds
  | [], _, h => by cases h; exact .nil
  | d :: ds, _, h => by cases h with | cons h1 h2 => exact .cons (Rep.mono m h1) (RepA.mono m h2)
end
theorem RepA.length : ∀ {vs : List V} {ds : List D}, RepA K S vs ds → vs.length = ds.length
  | _, _, .nil => rfl
  | _, _, .cons _ t => congrArg Nat.succ (RepA.length t)
theorem RepA.append : ∀ {vs ws : List V} {ds es : List D}, RepA K S vs ds → RepA K S ws es → RepA K S (vs ++ ws) (ds ++ es)
  | _, _, _, _, .nil, h => h
  | _, _, _, _, .cons h1 t, h => .cons h1 (RepA.append t h)
theorem RepA.get : ∀ {vs : List V} {ds : List D} {i : Nat} {d : D}, RepA K S vs ds → ds[i]? = some d → ∃ v, vs[i]? = some v ∧ Rep K S v d
  | _, _, _, _, .nil, h => by simp at h
  | _, _, 0, _, .cons h1 _, h => by simp at h; subst h; exact ⟨_, rfl, h1⟩
  | _, _, i + 1, _, .cons _ t, h => by
    obtain ⟨v, e, r⟩ := RepA.get (i := i) t (by simpa using h)
    exact ⟨v, by simpa using e, r⟩
theorem RepA.get' : ∀ {vs : List V} {ds : List D} {i : Nat} {v : V}, RepA K S vs ds → vs[i]? = some v → ∃ d, ds[i]? = some d ∧ Rep K S v d
  | _, _, _, _, .nil, h => by simp at h
  | _, _, 0, _, .cons h1 _, h => by simp at h; subst h; exact ⟨_, rfl, h1⟩
  | _, _, i + 1, _, .cons _ t, h => by
    obtain ⟨v, e, r⟩ := RepA.get' (i := i) t (by simpa using h)
    exact ⟨v, by simpa using e, r⟩
theorem RepA.take : ∀ {vs : List V} {ds : List D} (n : Nat), RepA K S vs ds → RepA K S (vs.take n) (ds.take n)
  | _, _, 0, _ => .nil
  | _, _, _ + 1, .nil => .nil
  | _, _, n + 1, .cons h t => .cons h (RepA.take n t)
theorem RepA.drop : ∀ {vs : List V} {ds : List D} (n : Nat), RepA K S vs ds → RepA K S (vs.drop n) (ds.drop n)
  | _, _, 0, h => h
  | _, _, _ + 1, .nil => .nil
  | _, _, n + 1, .cons _ t => RepA.drop n t
theorem RepA.set {v : V} {d : D} (r : Rep K S v d) : ∀ {vs : List V} {ds : List D} (n : Nat), RepA K S vs ds → RepA K S (vs.set n v) (ds.set n d)
  | _, _, _, .nil => .nil
  | _, _, 0, .cons _ t => .cons r t
  | _, _, n + 1, .cons h t => .cons h (RepA.set r n t)
theorem RepA.eraseIdx : ∀ {vs : List V} {ds : List D} (n : Nat), RepA K S vs ds → RepA K S (vs.eraseIdx n) (ds.eraseIdx n)
  | _, _, _, .nil => .nil
  | _, _, 0, .cons _ t => t
  | _, _, n + 1, .cons h t => .cons h (RepA.eraseIdx n t)
theorem RepA.reverse : ∀ {vs : List V} {ds : List D}, RepA K S vs ds → RepA K S vs.reverse ds.reverse
  | _, _, .nil => .nil
  | _, _, .cons h t => by
    rw [List.reverse_cons, List.reverse_cons]
    exact RepA.append (RepA.reverse t) (.cons h .nil)
theorem RepA.replicate {v : V} {d : D} (r : Rep K S v d) : ∀ n : Nat, RepA K S (List.replicate n v) (List.replicate n d)
  | 0 => .nil
  | n + 1 => .cons r (RepA.replicate r n)
theorem RepA.ints (ns : List Int) : RepA K S (ns.map V.int) (ns.map PyData.int) := by
  induction ns with
  | nil => exact .nil
  | cons n ns ih => exact .cons (.int n) ih
theorem RepA.ints_of : ∀ {vs : List V} {ns : List Int}, RepA K S vs (ns.map PyData.int) → vs = ns.map V.int
  | _, [], h => by cases h; rfl
  | _, n :: ns, h => by
    cases h with
    | cons h1 h2 =>
      cases h1
      rw [RepA.ints_of h2]
      rfl
end

/-! ### slots -/
inductive Ob where
  | lst (ds : List D)
  | dK (kvs : List (Key × D))
  | dT (kvs : List (List Key × D))
  | well (cells : List Int) (s c : Int)
  | deck (deep : List Int) (st : Int)
inductive SV where
  | un
  | sh (d : D)
  | ow (o : Ob)
  | pa (o : Ob)
  | scr (ns : List Int)
abbrev En := List SV
abbrev SL := List (Option V)

def ObAt (K : Fr8) (S H : Hp) (a : Addr) : Ob → List Addr → Prop
  | .lst ds, f => f = [a] ∧ ∃ xs, H a = some (.lst xs) ∧ RepA K S xs ds
  | .dK kvs, f => f = [a] ∧ ∃ us : List (Key × V), H a = some (.dK us) ∧ us.map (·.1) = kvs.map (·.1) ∧ RepA K S (us.map (·.2)) (kvs.map (·.2))
  | .dT kvs, f => f = [a] ∧ ∃ us : List (List Key × V), H a = some (.dT us) ∧ us.map (·.1) = kvs.map (·.1) ∧ RepA K S (us.map (·.2)) (kvs.map (·.2))
  | .well cells s c, f => ∃ b, f = [a, b] ∧ H a = some (.lst [.ref b, .int s, .int c]) ∧ H b = some (.lst (cells.map V.int))
  | .deck deep st, f => ∃ b, f = [a, b] ∧ H a = some (.dK [(Sum.inr "deep", .ref b), (Sum.inr "state", .int st)]) ∧ H b = some (.lst (deep.map V.int))

def SlotOk (K : Fr8) (a0 : Addr) (S H : Hp) : Option (Option V) → Option SV → List Addr → Prop
  | _, none, f => f = []
  | _, some .un, f => f = []
  | ov, some (.sh d), f => f = [] ∧ ∃ v, ov = some (some v) ∧ Rep K S v d
  | ov, some (.ow o), f => ∃ a, ov = some (some (.ref a)) ∧ ObAt K S H a o f
  | ov, some (.pa o), f => ov = some (some (.ref a0)) ∧ ObAt K S H a0 o f
  | ov, some (.scr ns), f => f = [] ∧ ∃ a, ov = some (some (.ref a)) ∧ SqL K S a (ns.map V.int)

structure Rl (K : Fr8) (a0 : Addr) (B S0 : Hp) (σ : SL) (H S : Hp) (ρ : En) : Prop where
  s0 : Same S0 S
  sh : Same S H
  bb : Same B H
  fr : ∀ b o, S b = some o → S0 b = some o ∨ B b = none
  len : σ.length = ρ.length
  ex : ∃ ft : Nat → List Addr, (∀ i, SlotOk K a0 S H σ[i]? ρ[i]? (ft i)) ∧ (∀ i j a, a ∈ ft i → a ∈ ft j → i = j) ∧ ∀ i a, a ∈ ft i → S a = none ∧ B a = none

section
variable {K : Fr8} {a0 : Addr} {B S0 S S' H H' : Hp} {σ : SL} {ρ : En}
theorem ObAt.trk {a : Addr} {o : Ob} {f : List Addr} (h : ObAt K S H a o f) : ∀ b ∈ f, ∃ u, H b = some u := by
  intro b hb
  cases o with
  | lst ds => obtain ⟨rfl, xs, e, _⟩ := h; simp at hb; subst hb; exact ⟨_, e⟩
  | dK ds => obtain ⟨rfl, xs, e, _⟩ := h; simp at hb; subst hb; exact ⟨_, e⟩
  | dT ds => obtain ⟨rfl, xs, e, _⟩ := h; simp at hb; subst hb; exact ⟨_, e⟩
  | well cells s c =>
    obtain ⟨c, rfl, e1, e2⟩ := h
    simp at hb
    rcases hb with rfl | rfl
    · exact ⟨_, e1⟩
    · exact ⟨_, e2⟩
  | deck dp st =>
    obtain ⟨c, rfl, e1, e2⟩ := h
    simp at hb
    rcases hb with rfl | rfl
    · exact ⟨_, e1⟩
    · exact ⟨_, e2⟩
theorem ObAt.mem {a : Addr} {o : Ob} {f : List Addr} (h : ObAt K S H a o f) : a ∈ f := by
  cases o with
  | lst ds => obtain ⟨rfl, _⟩ := h; simp
  | dK ds => obtain ⟨rfl, _⟩ := h; simp
  | dT ds => obtain ⟨rfl, _⟩ := h; simp
  | well cells s c => obtain ⟨c, rfl, _⟩ := h; simp
  | deck cells c => obtain ⟨c, rfl, _⟩ := h; simp
theorem ObAt.mono {a : Addr} {o : Ob} {f : List Addr} (m : Same S S') (k : ∀ b ∈ f, H' b = H b) (h : ObAt K S H a o f) : ObAt K S' H' a o f := by
  cases o with
  | lst ds => obtain ⟨rfl, xs, e, r⟩ := h; exact ⟨rfl, xs, by rw [k a (by simp)]; exact e, r.mono m⟩
  | dK ds => obtain ⟨rfl, xs, e, q, r⟩ := h; exact ⟨rfl, xs, by rw [k a (by simp)]; exact e, q, r.mono m⟩
  | dT ds => obtain ⟨rfl, xs, e, q, r⟩ := h; exact ⟨rfl, xs, by rw [k a (by simp)]; exact e, q, r.mono m⟩
  | well cells s c => obtain ⟨b, rfl, e, r⟩ := h; exact ⟨b, rfl, by rw [k a (by simp)]; exact e, by rw [k b (by simp)]; exact r⟩
  | deck cells s => obtain ⟨b, rfl, e, r⟩ := h; exact ⟨b, rfl, by rw [k a (by simp)]; exact e, by rw [k b (by simp)]; exact r⟩
theorem SlotOk.trk {ov : Option (Option V)} {sv : Option SV} {f : List Addr} (h : SlotOk K a0 S H ov sv f) : ∀ b ∈ f, ∃ u, H b = some u := by
  intro b hb
  rcases sv with _ | (_ | d | o | o | ns)
  · cases (show f = [] from h); simp at hb
  · cases (show f = [] from h); simp at hb
  · obtain ⟨rfl, _⟩ := h; simp at hb
  · obtain ⟨a, _, h⟩ := h; exact h.trk b hb
  · obtain ⟨_, h⟩ := h; exact h.trk b hb
  · obtain ⟨rfl, _⟩ := h; simp at hb
theorem SlotOk.mono {ov : Option (Option V)} {sv : Option SV} {f : List Addr} (m : Same S S') (k : ∀ b ∈ f, H' b = H b) (h : SlotOk K a0 S H ov sv f) : SlotOk K a0 S' H' ov sv f := by
  rcases sv with _ | (_ | d | o | o | ns)
  · exact h
  · exact h
  · obtain ⟨e, v, q, r⟩ := h; exact ⟨e, v, q, r.mono m⟩
  · obtain ⟨a, e, h⟩ := h; exact ⟨a, e, h.mono m k⟩
  · obtain ⟨e, h⟩ := h; exact ⟨e, h.mono m k⟩
  · obtain ⟨e, a, q, r⟩ := h; exact ⟨e, a, q, m.seq r⟩

/-- things were made, nothing that stood was changed -/
theorem Rl.grow (R : Rl K a0 B S0 σ H S ρ) (m : Same S S') (m' : Same S' H') (k : Same H H') (n : ∀ b o, S' b = some o → S b = some o ∨ H b = none) : Rl K a0 B S0 σ H' S' ρ := by
  obtain ⟨ft, h1, h2, h3⟩ := R.ex
  refine ⟨R.s0.trans m, m', R.bb.trans k, fun b o e => ?_, R.len, ft, fun i => ?_, h2, fun i a ha => ?_⟩
  · rcases n b o e with q | q
    · exact R.fr b o q
    · exact .inr (R.bb.free q)
  · refine (h1 i).mono m fun b hb => ?_
    obtain ⟨u, e⟩ := (h1 i).trk b hb
    rw [e, k _ _ e]
  · obtain ⟨u, e⟩ := (h1 i).trk a ha
    refine ⟨?_, (h3 i a ha).2⟩
    cases q : S' a with
    | none => rfl
    | some o =>
      rcases n a o q with z | z
      · rw [(h3 i a ha).1] at z; cases z
      · rw [e] at z; cases z
theorem same_new {p : Addr} {o : HO} (h : H p = none) : Same H (upd H p o) := fun b x e => by
  rw [upd_ne (ne_of_none e h)]; exact e
theorem Rl.sn (R : Rl K a0 B S0 σ H S ρ) {p : Addr} (h : H p = none) : S p = none := R.sh.free h
/-- a new object that is shared from now on -/
theorem Rl.share (R : Rl K a0 B S0 σ H S ρ) {p : Addr} (h : H p = none) (o : HO) : Rl K a0 B S0 σ (upd H p o) (upd S p o) ρ := by
  refine R.grow (same_new (R.sn h)) (fun b u e => ?_) (same_new h) fun b u e => ?_
  · by_cases hb : b = p
    · subst hb; rw [upd_same] at e ⊢; exact e
    · rw [upd_ne hb] at e ⊢; exact R.sh _ _ e
  · by_cases hb : b = p
    · subst hb; exact .inr h
    · rw [upd_ne hb] at e; exact .inl e
/-- a new object that is nobody's -/
theorem Rl.junk (R : Rl K a0 B S0 σ H S ρ) {p : Addr} (h : H p = none) (o : HO) : Rl K a0 B S0 σ (upd H p o) S ρ :=
  R.grow (Same.refl _) (R.sh.trans (same_new h)) (same_new h) fun b u e => .inl e
theorem Rl.push_sh (R : Rl K a0 B S0 σ H S ρ) {v : V} {d : D} (r : Rep K S v d) : Rl K a0 B S0 (some v :: σ) H S (.sh d :: ρ) := by
  obtain ⟨ft, h1, h2, h3⟩ := R.ex
  refine ⟨R.s0, R.sh, R.bb, R.fr, by simp [R.len], fun i => match i with | 0 => [] | i + 1 => ft i, fun i => ?_, fun i j a hi hj => ?_, fun i a ha => ?_⟩
  · cases i with
    | zero => exact ⟨rfl, v, rfl, r⟩
    | succ i => exact h1 i
  · cases i with
    | zero => simp at hi
    | succ i =>
      cases j with
      | zero => simp at hj
      | succ j => exact congrArg Nat.succ (h2 i j a hi hj)
  · cases i with
    | zero => simp at ha
    | succ i => exact h3 i a ha
theorem Rl.push_ow (R : Rl K a0 B S0 σ H S ρ) {p : Addr} {o : Ob} {f : List Addr} (r : ObAt K S H p o f) (n : ∀ a ∈ f, S a = none ∧ B a = none) (z : ∀ ft : Nat → List Addr, (∀ i, SlotOk K a0 S H σ[i]? ρ[i]? (ft i)) → (∀ i a, a ∈ ft i → S a = none ∧ B a = none) → ∀ i a, a ∈ ft i → a ∉ f) :
    Rl K a0 B S0 (some (.ref p) :: σ) H S (.ow o :: ρ) := by
  obtain ⟨ft, h1, h2, h3⟩ := R.ex
  have z' := z ft h1 h3
  refine ⟨R.s0, R.sh, R.bb, R.fr, by simp [R.len], fun i => match i with | 0 => f | i + 1 => ft i, fun i => ?_, fun i j a hi hj => ?_, fun i a ha => ?_⟩
  · cases i with
    | zero => exact ⟨p, rfl, r⟩
    | succ i => exact h1 i
  · cases i with
    | zero =>
      cases j with
      | zero => rfl
      | succ j => exact absurd hi (z' j a hj)
    | succ i =>
      cases j with
      | zero => exact absurd hj (z' i a hi)
      | succ j => exact congrArg Nat.succ (h2 i j a hi hj)
  · cases i with
    | zero => exact n a ha
    | succ i => exact h3 i a ha
/-- a new object, owned -/
theorem Rl.own (R : Rl K a0 B S0 σ H S ρ) {p : Addr} (h : H p = none) {u : HO} {o : Ob} (r : ObAt K S (upd H p u) p o [p]) : Rl K a0 B S0 (some (.ref p) :: σ) (upd H p u) S (.ow o :: ρ) := by
  have hS := R.sn h
  have hB := R.bb.free h
  obtain ⟨ft, h1, h2, h3⟩ := R.ex
  have R' := R.junk h u
  obtain ⟨a1, a2, a3, a4, a5, _⟩ := R'
  have ft' : ∀ i a, a ∈ ft i → a ≠ p := fun i a ha e => by
    obtain ⟨w, q⟩ := (h1 i).trk a ha
    rw [e, h] at q; cases q
  refine ⟨a1, a2, a3, a4, by simp [a5], fun i => match i with | 0 => [p] | i + 1 => ft i, fun i => ?_, fun i j a hi hj => ?_, fun i a ha => ?_⟩
  · cases i with
    | zero => exact ⟨p, rfl, r⟩
    | succ i => exact (h1 i).mono (Same.refl _) fun b hb => by rw [upd_ne (ft' i b hb)]
  · cases i with
    | zero =>
      cases j with
      | zero => rfl
      | succ j => simp at hi; exact absurd hi (ft' j a hj)
    | succ i =>
      cases j with
      | zero => simp at hj; exact absurd hj (ft' i a hi)
      | succ j => exact congrArg Nat.succ (h2 i j a hi hj)
  · cases i with
    | zero => simp at ha; subst ha; exact ⟨hS, hB⟩
    | succ i => exact h3 i a ha
theorem Rl.pop {x : Option V} {sv : SV} (R : Rl K a0 B S0 (x :: σ) H S (sv :: ρ)) : Rl K a0 B S0 σ H S ρ := by
  obtain ⟨ft, h1, h2, h3⟩ := R.ex
  exact ⟨R.s0, R.sh, R.bb, R.fr, by simpa using R.len, fun i => ft (i + 1), fun i => h1 (i + 1), fun i j a hi hj => Nat.succ.inj (h2 _ _ a hi hj), fun i a ha => h3 _ a ha⟩
theorem Rl.top_sh {x : Option V} {d : D} (R : Rl K a0 B S0 (x :: σ) H S (.sh d :: ρ)) : ∃ v, x = some v ∧ Rep K S v d := by
  obtain ⟨ft, h1, h2, h3⟩ := R.ex
  obtain ⟨_, v, e, r⟩ := h1 0
  exact ⟨v, Option.some.inj e, r⟩
/-- the top goes into a slot -/
theorem Rl.set {v : V} {sv : SV} (k : Nat) (R : Rl K a0 B S0 (some v :: σ) H S (sv :: ρ)) : Rl K a0 B S0 (σ.set k (some v)) H S (ρ.set k sv) := by
  obtain ⟨ft, h1, h2, h3⟩ := R.ex
  have hl : σ.length = ρ.length := by simpa using R.len
  by_cases hk : k < σ.length
  · refine ⟨R.s0, R.sh, R.bb, R.fr, by simp [hl], fun i => if i = k then ft 0 else ft (i + 1), fun i => ?_, fun i j a hi hj => ?_, fun i a ha => ?_⟩
    · by_cases e : i = k
      · subst e
        dsimp only
        rw [if_pos rfl, List.getElem?_set_self hk, List.getElem?_set_self (by omega)]
        exact h1 0
      · dsimp only; rw [if_neg e, List.getElem?_set_ne (fun z => e z.symm), List.getElem?_set_ne (fun z => e z.symm)]
        exact h1 (i + 1)
    · by_cases e1 : i = k
      · by_cases e2 : j = k
        · omega
        · simp only [if_pos e1, if_neg e2] at hi hj
          exact absurd (h2 _ _ a hi hj) (by omega)
      · by_cases e2 : j = k
        · simp only [if_neg e1, if_pos e2] at hi hj
          exact absurd (h2 _ _ a hi hj) (by omega)
        · simp only [if_neg e1, if_neg e2] at hi hj
          have := h2 _ _ a hi hj
          omega
    · by_cases e : i = k
      · simp only [if_pos e] at ha; exact h3 _ a ha
      · simp only [if_neg e] at ha; exact h3 _ a ha
  · rw [List.set_eq_of_length_le (by omega), List.set_eq_of_length_le (by omega)]
    exact R.pop
/-- a slot is forgotten -/
theorem Rl.wipe1 (R : Rl K a0 B S0 σ H S ρ) (k : Nat) (x : Option V) : Rl K a0 B S0 (σ.set k x) H S (ρ.set k .un) := by
  obtain ⟨ft, h1, h2, h3⟩ := R.ex
  refine ⟨R.s0, R.sh, R.bb, R.fr, by simp [R.len], fun i => if i = k then [] else ft i, fun i => ?_, fun i j a hi hj => ?_, fun i a ha => ?_⟩
  · by_cases e : i = k
    · subst e
      dsimp only
      rw [if_pos rfl]
      by_cases hk : i < ρ.length
      · rw [List.getElem?_set_self hk]; rfl
      · rw [List.getElem?_eq_none (l := ρ.set i .un) (by simpa using hk)]; rfl
    · dsimp only; rw [if_neg e, List.getElem?_set_ne (fun z => e z.symm), List.getElem?_set_ne (fun z => e z.symm)]
      exact h1 i
  · by_cases e1 : i = k
    · simp only [if_pos e1] at hi; simp at hi
    · by_cases e2 : j = k
      · simp only [if_pos e2] at hj; simp at hj
      · simp only [if_neg e1, if_neg e2] at hi hj; exact h2 _ _ a hi hj
  · by_cases e : i = k
    · simp only [if_pos e] at ha; simp at ha
    · simp only [if_neg e] at ha; exact h3 _ a ha
theorem Rl.get_sh (R : Rl K a0 B S0 σ H S ρ) {k : Nat} {d : D} (h : ρ[k]? = some (.sh d)) : ∃ v, σ[k]? = some (some v) ∧ Rep K S v d := by
  obtain ⟨ft, h1, _⟩ := R.ex
  have q := h1 k
  rw [h] at q
  exact q.2
theorem Rl.get_scr (R : Rl K a0 B S0 σ H S ρ) {k : Nat} {ns : List Int} (h : ρ[k]? = some (.scr ns)) : ∃ a, σ[k]? = some (some (.ref a)) ∧ SqL K S a (ns.map V.int) := by
  obtain ⟨ft, h1, _⟩ := R.ex
  have q := h1 k
  rw [h] at q
  exact q.2
/-- an owned object of one piece is changed in its place -/
theorem Rl.change (R : Rl K a0 B S0 σ H S ρ) {k : Nat} {o : Ob} (h : ρ[k]? = some (.ow o)) : ∃ a f, σ[k]? = some (some (.ref a)) ∧ ObAt K S H a o f ∧ (∀ b ∈ f, S b = none ∧ B b = none) ∧
    ∀ H' o' f', ObAt K S H' a o' f' → (∀ b, b ∉ f → b ∉ f' → H' b = H b) → (∀ b ∈ f', b ∈ f ∨ H b = none) → Rl K a0 B S0 σ H' S (ρ.set k (.ow o')) := by
  obtain ⟨ft, h1, h2, h3⟩ := R.ex
  have q := h1 k
  rw [h] at q
  obtain ⟨a, e, ob⟩ := q
  have hk : k < ρ.length := by
    rcases Nat.lt_or_ge k ρ.length with z | z
    · exact z
    · rw [List.getElem?_eq_none z] at h; cases h
  refine ⟨a, ft k, e, ob, fun b hb => h3 k b hb, fun H' o' f' ob' same new => ?_⟩
  have keep : ∀ b u, H b = some u → b ∉ ft k → H' b = some u := fun b u e1 e2 => by
    by_cases e3 : b ∈ f'
    · rcases new b e3 with z | z
      · exact absurd z e2
      · rw [e1] at z; cases z
    · rw [same b e2 e3]; exact e1
  refine ⟨R.s0, fun b u e1 => ?_, fun b u e1 => ?_, R.fr, by simp [R.len], fun i => if i = k then f' else ft i, fun i => ?_, fun i j b hi hj => ?_, fun i b hb => ?_⟩
  · exact keep b u (R.sh _ _ e1) fun z => by rw [(h3 k b z).1] at e1; cases e1
  · exact keep b u (R.bb _ _ e1) fun z => by rw [(h3 k b z).2] at e1; cases e1
  · by_cases ei : i = k
    · subst ei
      dsimp only
      rw [if_pos rfl, List.getElem?_set_self hk, e]
      exact ⟨a, rfl, ob'⟩
    · dsimp only; rw [if_neg ei, List.getElem?_set_ne (fun z => ei z.symm)]
      refine (h1 i).mono (Same.refl _) fun b hb => ?_
      obtain ⟨u, eu⟩ := (h1 i).trk b hb
      rw [eu, keep b u eu fun z => ei (h2 _ _ b hb z)]
  · by_cases e1 : i = k
    · by_cases e2 : j = k
      · omega
      · simp only [if_pos e1, if_neg e2] at hi hj
        rcases new b hi with z | z
        · exact absurd (h2 _ _ b hj z) e2
        · obtain ⟨u, eu⟩ := (h1 j).trk b hj
          rw [eu] at z; cases z
    · by_cases e2 : j = k
      · simp only [if_neg e1, if_pos e2] at hi hj
        rcases new b hj with z | z
        · exact absurd (h2 _ _ b hi z) e1
        · obtain ⟨u, eu⟩ := (h1 i).trk b hi
          rw [eu] at z; cases z
      · simp only [if_neg e1, if_neg e2] at hi hj
        exact h2 _ _ b hi hj
  · by_cases ei : i = k
    · simp only [if_pos ei] at hb
      rcases new b hb with z | z
      · exact h3 k b z
      · exact ⟨R.sh.free z, R.bb.free z⟩
    · simp only [if_neg ei] at hb
      exact h3 i b hb
/-- the same of the parameter's -/
theorem Rl.changeP (R : Rl K a0 B S0 σ H S ρ) {k : Nat} {o : Ob} (h : ρ[k]? = some (.pa o)) : ∃ f, σ[k]? = some (some (.ref a0)) ∧ ObAt K S H a0 o f ∧ (∀ b ∈ f, S b = none ∧ B b = none) ∧
    ∀ H' o' f', ObAt K S H' a0 o' f' → (∀ b, b ∉ f → b ∉ f' → H' b = H b) → (∀ b ∈ f', b ∈ f ∨ H b = none) → Rl K a0 B S0 σ H' S (ρ.set k (.pa o')) := by
  obtain ⟨ft, h1, h2, h3⟩ := R.ex
  have q := h1 k
  rw [h] at q
  obtain ⟨e, ob⟩ := q
  have hk : k < ρ.length := by
    rcases Nat.lt_or_ge k ρ.length with z | z
    · exact z
    · rw [List.getElem?_eq_none z] at h; cases h
  refine ⟨ft k, e, ob, fun b hb => h3 k b hb, fun H' o' f' ob' same new => ?_⟩
  have keep : ∀ b u, H b = some u → b ∉ ft k → H' b = some u := fun b u e1 e2 => by
    by_cases e3 : b ∈ f'
    · rcases new b e3 with z | z
      · exact absurd z e2
      · rw [e1] at z; cases z
    · rw [same b e2 e3]; exact e1
  refine ⟨R.s0, fun b u e1 => ?_, fun b u e1 => ?_, R.fr, by simp [R.len], fun i => if i = k then f' else ft i, fun i => ?_, fun i j b hi hj => ?_, fun i b hb => ?_⟩
  · exact keep b u (R.sh _ _ e1) fun z => by rw [(h3 k b z).1] at e1; cases e1
  · exact keep b u (R.bb _ _ e1) fun z => by rw [(h3 k b z).2] at e1; cases e1
  · by_cases ei : i = k
    · subst ei
      dsimp only
      rw [if_pos rfl, List.getElem?_set_self hk, e]
      exact ⟨rfl, ob'⟩
    · dsimp only; rw [if_neg ei, List.getElem?_set_ne (fun z => ei z.symm)]
      refine (h1 i).mono (Same.refl _) fun b hb => ?_
      obtain ⟨u, eu⟩ := (h1 i).trk b hb
      rw [eu, keep b u eu fun z => ei (h2 _ _ b hb z)]
  · by_cases e1 : i = k
    · by_cases e2 : j = k
      · omega
      · simp only [if_pos e1, if_neg e2] at hi hj
        rcases new b hi with z | z
        · exact absurd (h2 _ _ b hj z) e2
        · obtain ⟨u, eu⟩ := (h1 j).trk b hj
          rw [eu] at z; cases z
    · by_cases e2 : j = k
      · simp only [if_neg e1, if_pos e2] at hi hj
        rcases new b hj with z | z
        · exact absurd (h2 _ _ b hi z) e1
        · obtain ⟨u, eu⟩ := (h1 i).trk b hi
          rw [eu] at z; cases z
      · simp only [if_neg e1, if_neg e2] at hi hj
        exact h2 _ _ b hi hj
  · by_cases ei : i = k
    · simp only [if_pos ei] at hb
      rcases new b hb with z | z
      · exact h3 k b z
      · exact ⟨R.sh.free z, R.bb.free z⟩
    · simp only [if_neg ei] at hb
      exact h3 i b hb
/-- an owned list is shared from now on -/
theorem Rl.freeze (R : Rl K a0 B S0 σ H S ρ) {k : Nat} {ds : List D} (h : ρ[k]? = some (.ow (.lst ds))) : ∃ a S', σ[k]? = some (some (.ref a)) ∧ Same S S' ∧ Rep K S' (.ref a) (.list ds) ∧ Rl K a0 B S0 σ H S' (ρ.set k (.sh (.list ds))) := by
  obtain ⟨ft, h1, h2, h3⟩ := R.ex
  have q := h1 k
  rw [h] at q
  obtain ⟨a, e, ef, xs, ea, r⟩ := q
  have hk : k < ρ.length := by
    rcases Nat.lt_or_ge k ρ.length with z | z
    · exact z
    · rw [List.getElem?_eq_none z] at h; cases h
  have ha : a ∈ ft k := by rw [ef]; simp
  have m : Same S (upd S a (.lst xs)) := same_new (h3 k a ha).1
  have rp : Rep K (upd S a (.lst xs)) (.ref a) (.list ds) := .lst upd_same (r.mono m)
  refine ⟨a, upd S a (.lst xs), e, m, rp, R.s0.trans m, fun b u eb => ?_, R.bb, fun b u eb => ?_, by simp [R.len], fun i => if i = k then [] else ft i, fun i => ?_, fun i j b hi hj => ?_, fun i b hb => ?_⟩
  · by_cases z : b = a
    · subst z; rw [upd_same] at eb; cases eb; exact ea
    · rw [upd_ne z] at eb; exact R.sh _ _ eb
  · by_cases z : b = a
    · subst z; exact .inr (h3 k b ha).2
    · rw [upd_ne z] at eb; exact R.fr _ _ eb
  · by_cases ei : i = k
    · subst ei
      dsimp only
      rw [if_pos rfl, List.getElem?_set_self hk, e]
      exact ⟨rfl, _, rfl, rp⟩
    · dsimp only; rw [if_neg ei, List.getElem?_set_ne (fun z => ei z.symm)]
      exact (h1 i).mono m fun b hb => rfl
  · by_cases e1 : i = k
    · simp only [if_pos e1] at hi; simp at hi
    · by_cases e2 : j = k
      · simp only [if_pos e2] at hj; simp at hj
      · simp only [if_neg e1, if_neg e2] at hi hj; exact h2 _ _ b hi hj
  · by_cases ei : i = k
    · simp only [if_pos ei] at hb; simp at hb
    · simp only [if_neg ei] at hb
      refine ⟨?_, (h3 i b hb).2⟩
      rw [upd_ne fun z => ei (h2 _ _ b hb (by rw [z]; exact ha))]
      exact (h3 i b hb).1
/-- a new object D beside, in the frame -/
theorem Rl.frame (R : Rl K a0 B S0 σ H S ρ) {p : Addr} (h : H p = none) (o : HO) : Rl K a0 (upd B p o) S0 σ (upd H p o) S ρ := by
  have hS := R.sn h
  obtain ⟨ft, h1, h2, h3⟩ := R.ex
  have ft' : ∀ i a, a ∈ ft i → a ≠ p := fun i a ha e => by
    obtain ⟨w, q⟩ := (h1 i).trk a ha
    rw [e, h] at q; cases q
  refine ⟨R.s0, R.sh.trans (same_new h), fun b u e => ?_, fun b u e => ?_, R.len, ft, fun i => (h1 i).mono (Same.refl _) fun b hb => by rw [upd_ne (ft' i b hb)], h2, fun i a ha => ⟨(h3 i a ha).1, by rw [upd_ne (ft' i a ha)]; exact (h3 i a ha).2⟩⟩
  · by_cases z : b = p
    · subst z; rw [upd_same] at e ⊢; exact e
    · rw [upd_ne z] at e ⊢; exact R.bb _ _ e
  · by_cases z : b = p
    · subst z; rw [hS] at e; cases e
    · rw [upd_ne z]; exact R.fr _ _ e
theorem Rl.reframe {p : Addr} {o : HO} (R : Rl K a0 (upd B p o) S0 σ H S ρ) (hS0 : S0 p = none) (o' : HO) : S p = none ∧ H p = some o ∧ Rl K a0 (upd B p o') S0 σ (upd H p o') S ρ := by
  have hS : S p = none := by
    cases q : S p with
    | none => rfl
    | some u =>
      rcases R.fr p u q with z | z
      · rw [hS0] at z; cases z
      · rw [upd_same] at z; cases z
  obtain ⟨ft, h1, h2, h3⟩ := R.ex
  have ft' : ∀ i a, a ∈ ft i → a ≠ p := fun i a ha e => by
    have := (h3 i a ha).2
    rw [e, upd_same] at this; cases this
  refine ⟨hS, R.bb _ _ upd_same, R.s0, fun b u e => ?_, fun b u e => ?_, fun b u e => ?_, R.len, ft, fun i => (h1 i).mono (Same.refl _) fun b hb => by rw [upd_ne (ft' i b hb)], h2, fun i a ha => ⟨(h3 i a ha).1, by rw [upd_ne (ft' i a ha)]; have := (h3 i a ha).2; rw [upd_ne (ft' i a ha)] at this; exact this⟩⟩
  · have z : b ≠ p := fun z => by subst z; rw [hS] at e; cases e
    rw [upd_ne z]; exact R.sh _ _ e
  · by_cases z : b = p
    · subst z; rw [upd_same] at e ⊢; exact e
    · rw [upd_ne z] at e ⊢; exact R.bb _ _ (by rw [upd_ne z]; exact e)
  · rcases R.fr b u e with z | z
    · exact .inl z
    · refine .inr ?_
      have hb : b ≠ p := fun q => by subst q; rw [upd_same] at z; cases z
      rw [upd_ne hb] at z ⊢; exact z
/-- the frame's new object becomes owned -/
theorem Rl.unframe {p : Addr} {u : HO} (R : Rl K a0 (upd B p u) S0 σ H S ρ) (hB : B p = none) (hS0 : S0 p = none) {o : Ob} (ob : ObAt K S H p o [p]) : Rl K a0 B S0 (some (.ref p) :: σ) H S (.ow o :: ρ) := by
  obtain ⟨hS, hH, _⟩ := R.reframe hS0 u
  obtain ⟨ft, h1, h2, h3⟩ := R.ex
  have ft' : ∀ i a, a ∈ ft i → a ≠ p := fun i a ha e => by
    have := (h3 i a ha).2
    rw [e, upd_same] at this; cases this
  refine ⟨R.s0, R.sh, fun b v e => ?_, fun b v e => ?_, by simp [R.len], fun i => match i with | 0 => [p] | i + 1 => ft i, fun i => ?_, fun i j a hi hj => ?_, fun i a ha => ?_⟩
  · have z : b ≠ p := fun z => by subst z; rw [hB] at e; cases e
    exact R.bb _ _ (by rw [upd_ne z]; exact e)
  · have z : b ≠ p := fun z => by subst z; rw [hS] at e; cases e
    rcases R.fr b v e with q | q
    · exact .inl q
    · rw [upd_ne z] at q; exact .inr q
  · cases i with
    | zero => exact ⟨p, rfl, ob⟩
    | succ i => exact h1 i
  · cases i with
    | zero =>
      cases j with
      | zero => rfl
      | succ j => simp at hi; exact absurd hi (ft' j a hj)
    | succ i =>
      cases j with
      | zero => simp at hj; exact absurd hj (ft' i a hi)
      | succ j => exact congrArg Nat.succ (h2 i j a hi hj)
  · cases i with
    | zero => simp at ha; subst ha; exact ⟨hS, hB⟩
    | succ i =>
      have := h3 i a ha
      rw [upd_ne (ft' i a ha)] at this; exact this
end
end DL

set_option Elab.async false
set_option linter.all false
set_option maxRecDepth 100000
set_option maxHeartbeats 4000000
/-! DL, part b: the judgements over data, and their rules. -/
namespace DL
open PySem PySem.Spec PyProof.Rows L2

def ob2 {α β : Type} (m : Option (α × En)) (k : α → En → Option β) : Option β := match m with
  | some (a, ρ) => k a ρ
  | none => none
theorem ob2_some {α β : Type} {m : Option (α × En)} {k : α → En → Option β} {b : β} (h : ob2 m k = some b) : ∃ a ρ, m = some (a, ρ) ∧ k a ρ = some b := by
  rcases m with _ | ⟨a, ρ⟩
  · cases h
  · exact ⟨a, ρ, rfl, h⟩
def wth {α β : Type} (m : Option α) (b : β) : Option (α × β) := match m with
  | some a => some (a, b)
  | none => none
theorem wth_some {α β : Type} {m : Option α} {b b' : β} {a : α} (h : wth m b = some (a, b')) : m = some a ∧ b' = b := by
  cases m with
  | none => cases h
  | some x => cases h; exact ⟨rfl, rfl⟩

abbrev FE := En → Option (D × En)
abbrev FO := En → Option (Ob × En)
abbrev FT := En → Option (Bool × En)
abbrev FL := En → Option (List D × En)

def dE (K : Fr8) (f : FE) : TE := fun σ H Q => ∃ a0 B S0 S ρ d ρ', Rl K a0 B S0 σ H S ρ ∧ f ρ = some (d, ρ') ∧ ∀ v H' S', Same S S' → Rl K a0 B S0 σ H' S' ρ' → Rep K S' v d → Q v H'
def dO (K : Fr8) (f : FO) : TE := fun σ H Q => ∃ a0 B S0 S ρ o ρ', Rl K a0 B S0 σ H S ρ ∧ f ρ = some (o, ρ') ∧ ∀ v H' S', Same S S' → Rl K a0 B S0 (some v :: σ) H' S' (.ow o :: ρ') → Q v H'
def dT (K : Fr8) (f : FT) : TT := fun σ H Q => ∃ a0 B S0 S ρ b ρ', Rl K a0 B S0 σ H S ρ ∧ f ρ = some (b, ρ') ∧ ∀ H' S', Same S S' → Rl K a0 B S0 σ H' S' ρ' → Q b H'
def dA (K : Fr8) (f : FL) : TA := fun σ H Q => ∃ a0 B S0 S ρ ds ρ', Rl K a0 B S0 σ H S ρ ∧ f ρ = some (ds, ρ') ∧ ∀ vs H' S', Same S S' → Rl K a0 B S0 σ H' S' ρ' → RepA K S' vs ds → Q vs H'

section
variable {X : Cx} {e a b : Expr} {es : List Expr} {pos p : Pos}
theorem pe_wk {t t' : TE} (h : PE X e t) (w : ∀ σ H Q, t' σ H Q → t σ H Q) : PE X e t' := ⟨fun pins s σ H Q I q => h.run pins s σ H Q I (w σ H Q q)⟩
theorem pt_wk {t t' : TT} (h : PT X e t) (w : ∀ σ H Q, t' σ H Q → t σ H Q) : PT X e t' := ⟨fun pins s σ H Q I q => h.run pins s σ H Q I (w σ H Q q)⟩
theorem pw_wk {t t' : TT} (h : PW X e t) (w : ∀ σ H Q, t' σ H Q → t σ H Q) : PW X e t' := ⟨fun wh pins s σ H Q I q => h.run wh pins s σ H Q I (w σ H Q q)⟩
theorem pa_wk {t t' : TA} (h : PA X es t) (w : ∀ σ H Q, t' σ H Q → t σ H Q) : PA X es t' := ⟨fun po pins s σ H Q I q => h.run po pins s σ H Q I (w σ H Q q)⟩

/-! names, constants -/
def fVar (k : Nat) : FE := fun ρ => match ρ[k]? with
  | some (.sh d) => some (d, ρ)
  | _ => none
theorem fVar_some {k : Nat} {ρ ρ' : En} {d : D} (h : fVar k ρ = some (d, ρ')) : ρ[k]? = some (.sh d) ∧ ρ' = ρ := by
  unfold fVar at h
  split at h
  · rename_i d' e; cases h; exact ⟨e, rfl⟩
  · cases h
theorem de_var {k : Nat} (h : PE X e (tVar k)) : PE X e (dE X.K (fVar k)) := pe_wk h fun σ H Q ⟨a0, B, S0, S, ρ, d, ρ', R, f, q⟩ => by
  obtain ⟨h1, rfl⟩ := fVar_some f
  obtain ⟨v, h2, r⟩ := R.get_sh h1
  exact ⟨v, h2, q v H S (Same.refl _) R r⟩
/-- an owned list read for good: it is shared from now on -/
def fFz (k : Nat) : FE := fun ρ => match ρ[k]? with
  | some (.ow (.lst ds)) => some (.list ds, ρ.set k (.sh (.list ds)))
  | some (.sh d) => some (d, ρ)
  | _ => none
theorem de_fzv {k : Nat} (h : PE X e (tVar k)) : PE X e (dE X.K (fFz k)) := pe_wk h fun σ H Q ⟨a0, B, S0, S, ρ, d, ρ', R, f, q⟩ => by
  unfold fFz at f
  split at f
  · rename_i ds hk
    cases f
    obtain ⟨a, S', h1, m, r, R'⟩ := R.freeze hk
    exact ⟨.ref a, h1, q _ H S' m R' r⟩
  · rename_i d' hk
    cases f
    obtain ⟨v, h2, r⟩ := R.get_sh hk
    exact ⟨v, h2, q v H S (Same.refl _) R r⟩
  · cases f
def fC (d : D) : FE := fun ρ => some (d, ρ)
theorem de_c {v : V} {d : D} (r : ∀ S : Hp, Rep X.K S v d) (h : PE X e (tC v)) : PE X e (dE X.K (fC d)) := pe_wk h fun σ H Q ⟨a0, B, S0, S, ρ, d', ρ', R, f, q⟩ => by
  cases f
  exact q v H S (Same.refl _) R (r S)
theorem de_int {i : Int} {j : Nat} : PE X (.Constant (.int i) j pos) (dE X.K (fC (.int i))) := de_c (fun _ => .int i) pe_int
theorem de_bl {i : Bool} {j : Nat} : PE X (.Constant (.bool i) j pos) (dE X.K (fC (.bool i))) := de_c (fun _ => .bl i) pe_bl
theorem de_str {i : Str} {j : Nat} : PE X (.Constant (.str i) j pos) (dE X.K (fC (.str i))) := de_c (fun _ => .str i) pe_str
theorem de_non {j : Nat} : PE X (.Constant .none j pos) (dE X.K (fC .none)) := de_c (fun _ => .non) pe_non
theorem de_glob {x : Str} {v : V} {d : D} {u : Value} (r : ∀ S : Hp, Rep X.K S v d) (hg : Gl X x) (hm : X.mg x = some u) (rv : RelV v u) (hd : (x == ("__debug__" : Str)) = false := by decide) : PE X (.Name x pos) (dE X.K (fC d)) :=
  de_c r (pe_glob hg hm rv hd)

/-! what an operation by values gives: what stands, or one new object -/
def Gv (K : Fr8) (S H : Hp) (d : D) (Q : VK) : Prop := (∀ v, Rep K S v d → Q v H) ∧ ∀ q o, H q = none → Rep K (upd S q o) (.ref q) d → Q (.ref q) (upd H q o)
def rD (K : Fr8) (g : D → D → Option D) : R2 := fun x y H Q => ∃ S dx dy d, Same S H ∧ Rep K S x dx ∧ Rep K S y dy ∧ g dx dy = some d ∧ Gv K S H d Q
def rD1 (K : Fr8) (g : D → Option D) : V → Hp → VK → Prop := fun x H Q => ∃ S dx d, Same S H ∧ Rep K S x dx ∧ g dx = some d ∧ Gv K S H d Q
def rDc (K : Fr8) (g : List D → Option D) : List V → Hp → VK → Prop := fun vs H Q => ∃ S ds d, Same S H ∧ RepA K S vs ds ∧ g ds = some d ∧ Gv K S H d Q
def rDs (K : Fr8) (g : D → Option Int → Option Int → Option D) : V → Option Int → Option Int → Hp → VK → Prop := fun x lo hi H Q => ∃ S dx d, Same S H ∧ Rep K S x dx ∧ g dx lo hi = some d ∧ Gv K S H d Q
def rDm (K : Fr8) (g : D → List D → Option D) : V → List V → Hp → VK → Prop := fun x vs H Q => ∃ S dx ds d, Same S H ∧ Rep K S x dx ∧ RepA K S vs ds ∧ g dx ds = some d ∧ Gv K S H d Q
def rDb (K : Fr8) (g : D → D → Option Bool) : R2 := fun x y H Q => ∃ S dx dy b, Same S H ∧ Rep K S x dx ∧ Rep K S y dy ∧ g dx dy = some b ∧ Q (.bl b) H
/-- .. a new list -/
def GvO (K : Fr8) (S H : Hp) (ds : List D) (Q : VK) : Prop := ∀ q xs, H q = none → RepA K S xs ds → Q (.ref q) (upd H q (.lst xs))
theorem Gv.go {K : Fr8} {a0 : Addr} {B S0 S S1 H : Hp} {σ : SL} {ρ : En} {d : D} {Q : VK} (R : Rl K a0 B S0 σ H S ρ) (m : Same S1 S) (q : ∀ v H' S', Same S1 S' → Rl K a0 B S0 σ H' S' ρ → Rep K S' v d → Q v H') : Gv K S H d Q :=
  ⟨fun v r => q v H S m R r, fun p o hp r => q _ _ _ (m.trans (same_new (R.sn hp))) (R.share hp o) r⟩
theorem GvO.go {K : Fr8} {a0 : Addr} {B S0 S S1 H : Hp} {σ : SL} {ρ : En} {ds : List D} {Q : VK} (R : Rl K a0 B S0 σ H S ρ) (m : Same S1 S) (q : ∀ v H' S', Same S1 S' → Rl K a0 B S0 (some v :: σ) H' S' (.ow (.lst ds) :: ρ) → Q v H') : GvO K S H ds Q :=
  fun p xs hp r => q _ _ _ m (R.own hp ⟨rfl, xs, upd_same, r⟩)
theorem GvO.gv {K : Fr8} {S H : Hp} {ds : List D} {Q : VK} (m : Same S H) (g : Gv K S H (.list ds) Q) : GvO K S H ds Q := fun p xs hp r =>
  g.2 p _ hp (.lst upd_same (r.mono (same_new (m.free hp))))

def fOp (g : D → D → Option D) (fa fb : FE) : FE := fun ρ => ob2 (fa ρ) fun x ρ1 => ob2 (fb ρ1) fun y ρ2 => wth (g x y) ρ2
theorem fOp_some {g : D → D → Option D} {fa fb : FE} {ρ ρ' : En} {d : D} (h : fOp g fa fb ρ = some (d, ρ')) : ∃ x ρ1 y, fa ρ = some (x, ρ1) ∧ fb ρ1 = some (y, ρ') ∧ g x y = some d := by
  obtain ⟨x, ρ1, e1, h⟩ := ob2_some h
  obtain ⟨y, ρ2, e2, h⟩ := ob2_some h
  obtain ⟨e3, rfl⟩ := wth_some h
  exact ⟨x, ρ1, y, e1, e2, e3⟩
theorem top_go {K : Fr8} {g : D → D → Option D} {fa fb : FE} {σ : SL} {H : Hp} {Q : VK} (h : dE K (fOp g fa fb) σ H Q) : tOp (rD K g) (dE K fa) (dE K fb) σ H Q := by
  obtain ⟨a0, B, S0, S, ρ, d, ρ', R, f, q⟩ := h
  obtain ⟨x, ρ1, y, e1, e2, e3⟩ := fOp_some f
  refine ⟨a0, B, S0, S, ρ, x, ρ1, R, e1, fun v H1 S1 m1 R1 r1 => ?_⟩
  refine ⟨a0, B, S0, S1, ρ1, y, ρ', R1, e2, fun u H2 S2 m2 R2 r2 => ?_⟩
  exact ⟨S2, x, y, d, R2.sh, r1.mono m2, r2, e3, Gv.go R2 (m1.trans m2) q⟩
theorem de_op {op : Operator} {g : D → D → Option D} {fa fb : FE} (ho : OpR X (binaryOp op) (rD X.K g)) (ha : PE X a (dE X.K fa)) (hb : PE X b (dE X.K fb)) : PE X (.BinOp a op b pos) (dE X.K (fOp g fa fb)) :=
  pe_wk (pe_op ho ha hb) fun _ _ _ h => top_go h
theorem de_ix {g : D → D → Option D} {fa fb : FE} (ho : IxR X (rD X.K g)) (ha : PE X a (dE X.K fa)) (hb : PE X b (dE X.K fb)) (hp : PlainIx b) : PE X (.Subscript a b pos) (dE X.K (fOp g fa fb)) :=
  pe_wk (pe_ix ho ha hb hp) fun _ _ _ h => top_go h
/-- comparisons -/
def fCmp (g : D → D → Option Bool) (fa fb : FE) : FT := fun ρ => ob2 (fa ρ) fun x ρ1 => ob2 (fb ρ1) fun y ρ2 => wth (g x y) ρ2
def fBl (t : FT) : FE := fun ρ => ob2 (t ρ) fun b ρ1 => some (.bool b, ρ1)
theorem fCmp_some {g : D → D → Option Bool} {fa fb : FE} {ρ ρ' : En} {b : Bool} (h : fCmp g fa fb ρ = some (b, ρ')) : ∃ x ρ1 y, fa ρ = some (x, ρ1) ∧ fb ρ1 = some (y, ρ') ∧ g x y = some b := by
  obtain ⟨x, ρ1, e1, h⟩ := ob2_some h
  obtain ⟨y, ρ2, e2, h⟩ := ob2_some h
  obtain ⟨e3, rfl⟩ := wth_some h
  exact ⟨x, ρ1, y, e1, e2, e3⟩
theorem dt_cmp {op : CmpOp} {g : D → D → Option Bool} {fa fb : FE} (ho : OpR X (compareOp op) (rDb X.K g)) (ha : PE X a (dE X.K fa)) (hb : PE X b (dE X.K fb)) (hm : behindInMarks op b = false) : PT X (.Compare a [op] [b] pos) (dT X.K (fCmp g fa fb)) :=
  pt_wk (pt_cmpR ho ha hb hm) fun σ H Q ⟨a0, B, S0, S, ρ, d, ρ', R, f, q⟩ => by
    obtain ⟨x, ρ1, y, e1, e2, e3⟩ := fCmp_some f
    refine ⟨a0, B, S0, S, ρ, x, ρ1, R, e1, fun v H1 S1 m1 R1 r1 => ?_⟩
    refine ⟨a0, B, S0, S1, ρ1, y, ρ', R1, e2, fun u H2 S2 m2 R2 r2 => ?_⟩
    exact ⟨S2, x, y, d, R2.sh, r1.mono m2, r2, e3, d, rfl, q H2 S2 (m1.trans m2) R2⟩
theorem de_cmp {op : CmpOp} {g : D → D → Option Bool} {fa fb : FE} (ho : OpR X (compareOp op) (rDb X.K g)) (ha : PE X a (dE X.K fa)) (hb : PE X b (dE X.K fb)) (hm : behindInMarks op b = false) : PE X (.Compare a [op] [b] pos) (dE X.K (fBl (fCmp g fa fb))) :=
  pe_wk (pe_cmpR ho ha hb hm) fun σ H Q ⟨a0, B, S0, S, ρ, d, ρ', R, f, q⟩ => by
    obtain ⟨bb, ρ2, e0, f⟩ := ob2_some f
    cases f
    obtain ⟨x, ρ1, y, e1, e2, e3⟩ := fCmp_some e0
    refine ⟨a0, B, S0, S, ρ, x, ρ1, R, e1, fun v H1 S1 m1 R1 r1 => ?_⟩
    refine ⟨a0, B, S0, S1, ρ1, y, _, R1, e2, fun u H2 S2 m2 R2 r2 => ?_⟩
    exact ⟨S2, x, y, bb, R2.sh, r1.mono m2, r2, e3, q _ H2 S2 (m1.trans m2) R2 (.bl bb)⟩
/-- a test by its value -/
def fTe (f : FE) : FT := fun ρ => ob2 (f ρ) fun d ρ1 => match d with
  | .bool b => some (b, ρ1)
  | _ => none
theorem dt_val {f : FE} (h : PE X e (dE X.K f)) (he : ∀ whole, isTrue e X.env whole = (do let v ← whole; standAt e.pos; holding [v] (truthy v)) := by intro _; rfl) : PT X e (dT X.K (fTe f)) :=
  pt_wk (pt_val h he) fun σ H Q ⟨a0, B, S0, S, ρ, d, ρ', R, f, q⟩ => by
    obtain ⟨x, ρ1, e1, f⟩ := ob2_some f
    split at f
    · cases f
      refine ⟨a0, B, S0, S, ρ, _, _, R, e1, fun v H1 S1 m1 R1 r1 => ?_⟩
      cases r1
      exact ⟨_, rfl, q H1 S1 m1 R1⟩
    · cases f
def fNot (t : FT) : FT := fun ρ => ob2 (t ρ) fun b ρ1 => some (!b, ρ1)
theorem dt_not {t : FT} (h : PT X a (dT X.K t)) : PT X (.UnaryOp .Not a pos) (dT X.K (fNot t)) := pt_wk (pt_not h) fun σ H Q ⟨a0, B, S0, S, ρ, d, ρ', R, f, q⟩ => by
  obtain ⟨x, ρ1, e1, f⟩ := ob2_some f
  cases f
  exact ⟨a0, B, S0, S, ρ, x, _, R, e1, fun H1 S1 m1 R1 => q H1 S1 m1 R1⟩
def fAnd (t u : FT) : FT := fun ρ => ob2 (t ρ) fun b ρ1 => if b = true then u ρ1 else some (false, ρ1)
def fOr (t u : FT) : FT := fun ρ => ob2 (t ρ) fun b ρ1 => if b = true then some (true, ρ1) else u ρ1
theorem dw_one_and {t : FT} (h : PT X a (dT X.K t)) : PW X (.BoolOp .And [a] pos) (dT X.K t) := pw_and1 h
theorem dw_one_or {t : FT} (h : PT X a (dT X.K t)) : PW X (.BoolOp .Or [a] pos) (dT X.K t) := pw_or1 h
theorem dw_and {t u : FT} {rest : List Expr} (h : PT X a (dT X.K t)) (h' : PW X (.BoolOp .And (b :: rest) pos) (dT X.K u)) : PW X (.BoolOp .And (a :: b :: rest) pos) (dT X.K (fAnd t u)) :=
  pw_wk (pw_and h h') fun σ H Q ⟨a0, B, S0, S, ρ, d, ρ', R, f, q⟩ => by
    obtain ⟨x, ρ1, e1, f⟩ := ob2_some f
    refine ⟨a0, B, S0, S, ρ, x, ρ1, R, e1, fun H1 S1 m1 R1 => ?_⟩
    cases x with
    | true => rw [if_pos rfl] at f ⊢; exact ⟨a0, B, S0, S1, ρ1, d, ρ', R1, f, fun H2 S2 m2 R2 => q H2 S2 (m1.trans m2) R2⟩
    | false => rw [if_neg (by decide)] at f ⊢; cases f; exact q H1 S1 m1 R1
theorem dw_or {t u : FT} {rest : List Expr} (h : PT X a (dT X.K t)) (h' : PW X (.BoolOp .Or (b :: rest) pos) (dT X.K u)) : PW X (.BoolOp .Or (a :: b :: rest) pos) (dT X.K (fOr t u)) :=
  pw_wk (pw_or h h') fun σ H Q ⟨a0, B, S0, S, ρ, d, ρ', R, f, q⟩ => by
    obtain ⟨x, ρ1, e1, f⟩ := ob2_some f
    refine ⟨a0, B, S0, S, ρ, x, ρ1, R, e1, fun H1 S1 m1 R1 => ?_⟩
    cases x with
    | true => rw [if_pos rfl] at f ⊢; cases f; exact q H1 S1 m1 R1
    | false => rw [if_neg (by decide)] at f ⊢; exact ⟨a0, B, S0, S1, ρ1, d, ρ', R1, f, fun H2 S2 m2 R2 => q H2 S2 (m1.trans m2) R2⟩
/-- and, or, not as values: all bools -/
def fAndV (fa fb : FE) : FE := fun ρ => ob2 (fa ρ) fun x ρ1 => match x with
  | .bool b => if b = true then fb ρ1 else some (.bool false, ρ1)
  | _ => none
def fOrV (fa fb : FE) : FE := fun ρ => ob2 (fa ρ) fun x ρ1 => match x with
  | .bool b => if b = true then some (.bool true, ρ1) else fb ρ1
  | _ => none
theorem de_and {fa fb : FE} {rest : List Expr} (ha : PE X a (dE X.K fa)) (hb : PE X (.BoolOp .And (b :: rest) pos) (dE X.K fb)) : PE X (.BoolOp .And (a :: b :: rest) pos) (dE X.K (fAndV fa fb)) :=
  pe_wk (pe_and ha hb) fun σ H Q ⟨a0, B, S0, S, ρ, d, ρ', R, f, q⟩ => by
    obtain ⟨x, ρ1, e1, f⟩ := ob2_some f
    refine ⟨a0, B, S0, S, ρ, x, ρ1, R, e1, fun v H1 S1 m1 R1 r1 => ?_⟩
    split at f
    · rename_i bb
      cases r1
      refine ⟨bb, rfl, ?_⟩
      cases bb with
      | true => rw [if_pos rfl] at f ⊢; exact ⟨a0, B, S0, S1, ρ1, d, ρ', R1, f, fun v2 H2 S2 m2 R2 r2 => q v2 H2 S2 (m1.trans m2) R2 r2⟩
      | false => rw [if_neg (by decide)] at f ⊢; cases f; exact q _ H1 S1 m1 R1 (.bl _)
    · cases f
theorem de_or {fa fb : FE} {rest : List Expr} (ha : PE X a (dE X.K fa)) (hb : PE X (.BoolOp .Or (b :: rest) pos) (dE X.K fb)) : PE X (.BoolOp .Or (a :: b :: rest) pos) (dE X.K (fOrV fa fb)) :=
  pe_wk (pe_or ha hb) fun σ H Q ⟨a0, B, S0, S, ρ, d, ρ', R, f, q⟩ => by
    obtain ⟨x, ρ1, e1, f⟩ := ob2_some f
    refine ⟨a0, B, S0, S, ρ, x, ρ1, R, e1, fun v H1 S1 m1 R1 r1 => ?_⟩
    split at f
    · rename_i bb
      cases r1
      refine ⟨bb, rfl, ?_⟩
      cases bb with
      | true => rw [if_pos rfl] at f ⊢; cases f; exact q _ H1 S1 m1 R1 (.bl _)
      | false => rw [if_neg (by decide)] at f ⊢; exact ⟨a0, B, S0, S1, ρ1, d, ρ', R1, f, fun v2 H2 S2 m2 R2 r2 => q v2 H2 S2 (m1.trans m2) R2 r2⟩
    · cases f
theorem de_one {op : BoolOp} {fa : FE} (ha : PE X a (dE X.K fa)) : PE X (.BoolOp op [a] pos) (dE X.K fa) := pe_one ha
def fNotV (fa : FE) : FE := fun ρ => ob2 (fa ρ) fun x ρ1 => match x with
  | .bool b => some (.bool (!b), ρ1)
  | _ => none
theorem de_not {fa : FE} (ha : PE X a (dE X.K fa)) : PE X (.UnaryOp .Not a pos) (dE X.K (fNotV fa)) := pe_wk (pe_not ha) fun σ H Q ⟨a0, B, S0, S, ρ, d, ρ', R, f, q⟩ => by
  obtain ⟨x, ρ1, e1, f⟩ := ob2_some f
  refine ⟨a0, B, S0, S, ρ, x, ρ1, R, e1, fun v H1 S1 m1 R1 r1 => ?_⟩
  split at f
  · cases r1; cases f; exact ⟨_, rfl, q _ H1 S1 m1 R1 (.bl _)⟩
  · cases f
def fIf (t : FT) (fa fb : FE) : FE := fun ρ => ob2 (t ρ) fun b ρ1 => if b = true then fa ρ1 else fb ρ1
theorem de_if {c : Expr} {t : FT} {fa fb : FE} (hc : PT X c (dT X.K t)) (ha : PE X a (dE X.K fa)) (hb : PE X b (dE X.K fb)) : PE X (.IfExp c a b pos) (dE X.K (fIf t fa fb)) :=
  pe_wk (pe_ifExp hc ha hb) fun σ H Q ⟨a0, B, S0, S, ρ, d, ρ', R, f, q⟩ => by
    obtain ⟨x, ρ1, e1, f⟩ := ob2_some f
    refine ⟨a0, B, S0, S, ρ, x, ρ1, R, e1, fun H1 S1 m1 R1 => ?_⟩
    cases x with
    | true => rw [if_pos rfl] at f ⊢; exact ⟨a0, B, S0, S1, ρ1, d, ρ', R1, f, fun v2 H2 S2 m2 R2 r2 => q v2 H2 S2 (m1.trans m2) R2 r2⟩
    | false => rw [if_neg (by decide)] at f ⊢; exact ⟨a0, B, S0, S1, ρ1, d, ρ', R1, f, fun v2 H2 S2 m2 R2 r2 => q v2 H2 S2 (m1.trans m2) R2 r2⟩

/-! argument lists, displays -/
def fNil : FL := fun ρ => some ([], ρ)
def fCons (fa : FE) (fr : FL) : FL := fun ρ => ob2 (fa ρ) fun d ρ1 => ob2 (fr ρ1) fun ds ρ2 => some (d :: ds, ρ2)
theorem da_nil : PA X [] (dA X.K fNil) := pa_wk pa_nil fun σ H Q ⟨a0, B, S0, S, ρ, d, ρ', R, f, q⟩ => by
  cases f; exact q [] H S (Same.refl _) R .nil
theorem da_cons {fa : FE} {fr : FL} (ha : PE X e (dE X.K fa)) (hr : PA X es (dA X.K fr)) (hs : starEach (e :: es) X.env = (false, eval e X.env) :: starEach es X.env := by rfl) : PA X (e :: es) (dA X.K (fCons fa fr)) :=
  pa_wk (pa_cons ha hr hs) fun σ H Q ⟨a0, B, S0, S, ρ, d, ρ', R, f, q⟩ => by
    obtain ⟨x, ρ1, e1, f⟩ := ob2_some f
    obtain ⟨y, ρ2, e2, f⟩ := ob2_some f
    cases f
    refine ⟨a0, B, S0, S, ρ, x, ρ1, R, e1, fun v H1 S1 m1 R1 r1 => ?_⟩
    exact ⟨a0, B, S0, S1, ρ1, y, _, R1, e2, fun vs H2 S2 m2 R2 r2 => q _ H2 S2 (m1.trans m2) R2 (.cons (r1.mono m2) r2)⟩
theorem le_line {n : Nat} (h : n ≤ 1000) : n ≤ sizeLine := Nat.le_trans h (by decide)
def fTup (fl : FL) : FE := fun ρ => ob2 (fl ρ) fun ds ρ1 => if ds.length ≤ 1000 then some (.tuple ds, ρ1) else none
theorem de_tup {k : Nat} {fl : FL} (h : PA X es (dA X.K fl)) : PE X (.Tuple es k pos) (dE X.K (fTup fl)) := pe_wk (pe_tupP h) fun σ H Q ⟨a0, B, S0, S, ρ, d, ρ', R, f, q⟩ => by
  obtain ⟨x, ρ1, e1, f⟩ := ob2_some f
  split at f
  · rename_i hl
    cases f
    refine ⟨a0, B, S0, S, ρ, x, _, R, e1, fun vs H1 S1 m1 R1 r1 => ⟨by rw [r1.length]; exact le_line hl, fun p o hp ho => ?_⟩⟩
    exact q _ _ _ (m1.trans (same_new (R1.sn hp))) (R1.share hp _) (.tup (.inl ⟨o, upd_same, ho⟩) (r1.mono (same_new (R1.sn hp))))
  · cases f
def fLstO (fl : FL) : FO := fun ρ => ob2 (fl ρ) fun ds ρ1 => if ds.length ≤ 1000 then some (.lst ds, ρ1) else none
theorem do_lst {fl : FL} (h : PA X es (dA X.K fl)) : PE X (.List es pos) (dO X.K (fLstO fl)) := pe_wk (pe_lst h) fun σ H Q ⟨a0, B, S0, S, ρ, d, ρ', R, f, q⟩ => by
  obtain ⟨x, ρ1, e1, f⟩ := ob2_some f
  split at f
  · rename_i hl
    cases f
    refine ⟨a0, B, S0, S, ρ, x, _, R, e1, fun vs H1 S1 m1 R1 r1 => ⟨by rw [r1.length]; exact le_line hl, fun p hp => ?_⟩⟩
    exact q _ _ _ m1 (R1.own (o := .lst x) (u := .lst vs) hp ⟨rfl, vs, upd_same, r1⟩)
  · cases f
def fLst (fl : FL) : FE := fun ρ => ob2 (fl ρ) fun ds ρ1 => if ds.length ≤ 1000 then some (.list ds, ρ1) else none
/-- what is made is shared at once -/
def fFrz (f : FO) : FE := fun ρ => ob2 (f ρ) fun o ρ1 => match o with
  | .lst ds => some (.list ds, ρ1)
  | _ => none
theorem de_fz {f : FO} (h : PE X e (dO X.K f)) : PE X e (dE X.K (fFrz f)) := pe_wk h fun σ H Q ⟨a0, B, S0, S, ρ, d, ρ', R, f, q⟩ => by
  obtain ⟨x, ρ1, e1, f⟩ := ob2_some f
  split at f
  · cases f
    refine ⟨a0, B, S0, S, ρ, _, _, R, e1, fun v H1 S1 m1 R1 => ?_⟩
    obtain ⟨a, S', h1, m, r, R'⟩ := R1.freeze (k := 0) rfl
    cases h1
    exact q _ H1 S' (m1.trans m) R'.pop r
  · cases f
theorem de_lst {fl : FL} (h : PA X es (dA X.K fl)) : PE X (.List es pos) (dE X.K (fLst fl)) := pe_wk (de_fz (do_lst h)) fun σ H Q ⟨a0, B, S0, S, ρ, d, ρ', R, f, q⟩ => by
  refine ⟨a0, B, S0, S, ρ, d, ρ', R, ?_, q⟩
  obtain ⟨x, ρ1, e1, f⟩ := ob2_some f
  unfold fFrz fLstO
  rw [e1]
  show ob2 (if x.length ≤ 1000 then some (Ob.lst x, ρ1) else none) _ = _
  split at f
  · cases f
    rename_i hl
    rw [if_pos hl]
    rfl
  · cases f

/-! calls of built-ins -/
def fCall (g : List D → Option D) (fl : FL) : FE := fun ρ => ob2 (fl ρ) fun ds ρ1 => wth (g ds) ρ1
theorem tcb_go {K : Fr8} {g : List D → Option D} {fl : FL} {σ : SL} {H : Hp} {Q : VK} (h : dE K (fCall g fl) σ H Q) : tCB (rDc K g) (dA K fl) σ H Q := by
  obtain ⟨a0, B, S0, S, ρ, d, ρ', R, f, q⟩ := h
  obtain ⟨x, ρ1, e1, f⟩ := ob2_some f
  obtain ⟨e3, rfl⟩ := wth_some f
  exact ⟨a0, B, S0, S, ρ, x, _, R, e1, fun vs H1 S1 m1 R1 r1 => ⟨S1, x, d, R1.sh, r1, e3, Gv.go R1 m1 q⟩⟩
theorem de_callB {x : Str} {id : String} {g : List D → Option D} {fl : FL} (hc : CallR X (.builtin id) (rDc X.K g)) (hg : Gl X x) (hm : X.mg x = none) (hv : bootBuiltins x = some (.builtin id)) (ha : PA X (e :: es) (dA X.K fl)) (hn : x ≠ "__name__" := by decide) (hdb : (x == ("__debug__" : Str)) = false := by decide)
    (he : starEach (e :: es) X.env = (false, eval e X.env) :: starEach es X.env := by rfl) (hpl : (backTo pos (starEach es X.env)).any (·.1) = false := by rfl) : PE X (.Call (.Name x p) (e :: es) [] pos) (dE X.K (fCall g fl)) :=
  pe_wk (pe_callB hc hg hm hv ha hn hdb he hpl) fun _ _ _ h => tcb_go h
theorem de_callTy {x : Str} {T : String} {g : List D → Option D} {fl : FL} (hc : CallR X (.type T) (rDc X.K g)) (hg : Gl X x) (hm : X.mg x = none) (hv : bootBuiltins x = some (.type T)) (ha : PA X (e :: es) (dA X.K fl)) (hn : x ≠ "__name__" := by decide) (hdb : (x == ("__debug__" : Str)) = false := by decide)
    (he : starEach (e :: es) X.env = (false, eval e X.env) :: starEach es X.env := by rfl) (hpl : (backTo pos (starEach es X.env)).any (·.1) = false := by rfl) : PE X (.Call (.Name x p) (e :: es) [] pos) (dE X.K (fCall g fl)) :=
  pe_wk (pe_callTy hc hg hm hv ha hn hdb he hpl) fun _ _ _ h => tcb_go h
/-- .. that give a new list -/
def rDcO (K : Fr8) (g : List D → Option (List D)) : List V → Hp → VK → Prop := fun vs H Q => ∃ S ds es, Same S H ∧ RepA K S vs ds ∧ g ds = some es ∧ GvO K S H es Q
def fCallO (g : List D → Option (List D)) (fl : FL) : FO := fun ρ => ob2 (fl ρ) fun ds ρ1 => match g ds with
  | some es => some (.lst es, ρ1)
  | none => none
theorem tcbo_go {K : Fr8} {g : List D → Option (List D)} {fl : FL} {σ : SL} {H : Hp} {Q : VK} (h : dO K (fCallO g fl) σ H Q) : tCB (rDcO K g) (dA K fl) σ H Q := by
  obtain ⟨a0, B, S0, S, ρ, d, ρ', R, f, q⟩ := h
  obtain ⟨x, ρ1, e1, f⟩ := ob2_some f
  split at f
  · rename_i es e3
    cases f
    exact ⟨a0, B, S0, S, ρ, x, _, R, e1, fun vs H1 S1 m1 R1 r1 => ⟨S1, x, es, R1.sh, r1, e3, GvO.go R1 m1 q⟩⟩
  · cases f
theorem do_callB {x : Str} {id : String} {g : List D → Option (List D)} {fl : FL} (hc : CallR X (.builtin id) (rDcO X.K g)) (hg : Gl X x) (hm : X.mg x = none) (hv : bootBuiltins x = some (.builtin id)) (ha : PA X (e :: es) (dA X.K fl)) (hn : x ≠ "__name__" := by decide) (hdb : (x == ("__debug__" : Str)) = false := by decide)
    (he : starEach (e :: es) X.env = (false, eval e X.env) :: starEach es X.env := by rfl) (hpl : (backTo pos (starEach es X.env)).any (·.1) = false := by rfl) : PE X (.Call (.Name x p) (e :: es) [] pos) (dO X.K (fCallO g fl)) :=
  pe_wk (pe_callB hc hg hm hv ha hn hdb he hpl) fun _ _ _ h => tcbo_go h
theorem do_callTy {x : Str} {T : String} {g : List D → Option (List D)} {fl : FL} (hc : CallR X (.type T) (rDcO X.K g)) (hg : Gl X x) (hm : X.mg x = none) (hv : bootBuiltins x = some (.type T)) (ha : PA X (e :: es) (dA X.K fl)) (hn : x ≠ "__name__" := by decide) (hdb : (x == ("__debug__" : Str)) = false := by decide)
    (he : starEach (e :: es) X.env = (false, eval e X.env) :: starEach es X.env := by rfl) (hpl : (backTo pos (starEach es X.env)).any (·.1) = false := by rfl) : PE X (.Call (.Name x p) (e :: es) [] pos) (dO X.K (fCallO g fl)) :=
  pe_wk (pe_callTy hc hg hm hv ha hn hdb he hpl) fun _ _ _ h => tcbo_go h
def rDO (K : Fr8) (g : D → D → Option (List D)) : R2 := fun x y H Q => ∃ S dx dy es, Same S H ∧ Rep K S x dx ∧ Rep K S y dy ∧ g dx dy = some es ∧ GvO K S H es Q
def fOpO (g : D → D → Option (List D)) (fa fb : FE) : FO := fun ρ => ob2 (fa ρ) fun x ρ1 => ob2 (fb ρ1) fun y ρ2 => match g x y with
  | some es => some (.lst es, ρ2)
  | none => none
theorem do_op {op : Operator} {g : D → D → Option (List D)} {fa fb : FE} (ho : OpR X (binaryOp op) (rDO X.K g)) (ha : PE X a (dE X.K fa)) (hb : PE X b (dE X.K fb)) : PE X (.BinOp a op b pos) (dO X.K (fOpO g fa fb)) :=
  pe_wk (pe_op ho ha hb) fun σ H Q ⟨a0, B, S0, S, ρ, d, ρ', R, f, q⟩ => by
    obtain ⟨x, ρ1, e1, f⟩ := ob2_some f
    obtain ⟨y, ρ2, e2, f⟩ := ob2_some f
    split at f
    · rename_i es e3
      cases f
      refine ⟨a0, B, S0, S, ρ, x, ρ1, R, e1, fun v H1 S1 m1 R1 r1 => ?_⟩
      refine ⟨a0, B, S0, S1, ρ1, y, _, R1, e2, fun u H2 S2 m2 R2 r2 => ?_⟩
      exact ⟨S2, x, y, es, R2.sh, r1.mono m2, r2, e3, GvO.go R2 (m1.trans m2) q⟩
    · cases f
end
end DL

set_option Elab.async false
set_option linter.all false
set_option maxRecDepth 100000
set_option maxHeartbeats 4000000
/-! DL, part c: targets, statements, loops, comprehensions, methods of owned lists. -/
namespace DL
open PySem PySem.Spec PyProof.Rows L2

/-- an owned thing in hand is put aside while another one is reckoned -/
theorem Rl.hold {K : Fr8} {a0 : Addr} {B S0 S H : Hp} {σ : SL} {ρ : En} {x : Option V} {sv : SV} (R : Rl K a0 B S0 (x :: σ) H S (sv :: ρ)) (hp : ∀ o, sv ≠ .pa o) :
    ∃ B', Rl K a0 B' S0 σ H S ρ ∧ ∀ σ' ρ' H' S', Same S S' → Rl K a0 B' S0 σ' H' S' ρ' → Rl K a0 B S0 (x :: σ') H' S' (sv :: ρ') := by
  classical
  obtain ⟨ft, h1, h2, h3⟩ := R.ex
  have z0 : ∀ b, b ∈ ft 0 → ∃ u, H b = some u := fun b hb => (h1 0).trk b hb
  refine ⟨fun b => if b ∈ ft 0 then H b else B b, ⟨R.s0, R.sh, fun b u e => ?_, fun b u e => ?_, by simpa using R.len, fun i => ft (i + 1), fun i => h1 (i + 1), fun i j a hi hj => Nat.succ.inj (h2 _ _ a hi hj), fun i a ha => ⟨(h3 _ a ha).1, ?_⟩⟩, fun σ' ρ' H' S' m R' => ?_⟩
  · by_cases hb : b ∈ ft 0
    · simp only [if_pos hb] at e; exact e
    · simp only [if_neg hb] at e; exact R.bb _ _ e
  · by_cases hb : b ∈ ft 0
    · rw [(h3 0 b hb).1] at e; cases e
    · simp only [if_neg hb]; exact R.fr _ _ e
  · by_cases hb : a ∈ ft 0
    · exact absurd (h2 _ _ a ha hb) (by omega)
    · simp only [if_neg hb]; exact (h3 _ a ha).2
  · obtain ⟨gt, g1, g2, g3⟩ := R'.ex
    have k0 : ∀ b ∈ ft 0, H' b = H b := fun b hb => by
      obtain ⟨u, e⟩ := z0 b hb
      rw [e]
      exact R'.bb b u (by simp only [if_pos hb]; exact e)
    have n0 : ∀ b ∈ ft 0, S' b = none := fun b hb => by
      cases q : S' b with
      | none => rfl
      | some u =>
        obtain ⟨w, e⟩ := z0 b hb
        rcases R'.fr b u q with z | z
        · rw [R.s0.free (h3 0 b hb).1] at z; cases z
        · simp only [if_pos hb] at z; rw [e] at z; cases z
    have d0 : ∀ i b, b ∈ gt i → b ∉ ft 0 := fun i b hi hb => by
      have := (g3 i b hi).2
      obtain ⟨w, e⟩ := z0 b hb
      simp only [if_pos hb] at this
      rw [e] at this; cases this
    refine ⟨R'.s0, R'.sh, fun b u e => ?_, fun b u e => ?_, by simp [R'.len], fun i => match i with | 0 => ft 0 | i + 1 => gt i, fun i => ?_, fun i j a hi hj => ?_, fun i a ha => ?_⟩
    · have hb : b ∉ ft 0 := fun hb => by rw [(h3 0 b hb).2] at e; cases e
      exact R'.bb b u (by simp only [if_neg hb]; exact e)
    · by_cases hb : b ∈ ft 0
      · exact .inr (h3 0 b hb).2
      · have := R'.fr b u e
        simp only [if_neg hb] at this; exact this
    · cases i with
      | zero =>
        have q := (h1 0).mono m k0
        exact q
      | succ i => exact g1 i
    · cases i with
      | zero =>
        cases j with
        | zero => rfl
        | succ j => exact absurd hi (d0 j a hj)
      | succ i =>
        cases j with
        | zero => exact absurd hj (d0 i a hi)
        | succ j => exact congrArg Nat.succ (g2 i j a hi hj)
    · cases i with
      | zero => exact ⟨n0 a ha, (h3 0 a ha).2⟩
      | succ i =>
        have q := g3 i a ha
        refine ⟨q.1, ?_⟩
        have := q.2
        simp only [if_neg (d0 i a ha)] at this; exact this

/-! ### targets -/
abbrev FG := D → En → Option En
abbrev FGs := List D → En → Option En
def Kept (is : List Nat) (σ σ' : SL) : Prop := (∀ j, j ∉ is → σ'[j]? = σ[j]?) ∧ σ'.length = σ.length
def dG (K : Fr8) (is : List Nat) (t : FG) : TG := fun v σ H Q => ∃ a0 B S0 S ρ d ρ', Rl K a0 B S0 σ H S ρ ∧ Rep K S v d ∧ t d ρ = some ρ' ∧ ∀ σ', Rl K a0 B S0 σ' H S ρ' → Kept is σ σ' → Q σ' H
def dGs (K : Fr8) (is : List Nat) (t : FGs) : TGs := fun vs σ H Q => ∃ a0 B S0 S ρ ds ρ', Rl K a0 B S0 σ H S ρ ∧ RepA K S vs ds ∧ t ds ρ = some ρ' ∧ ∀ σ', Rl K a0 B S0 σ' H S ρ' → Kept is σ σ' → Q σ' H
def gtN (k : Nat) : FG := fun d ρ => some (ρ.set k (.sh d))
def gtNil : FGs := fun ds ρ => match ds with
  | [] => some ρ
  | _ => none
def gtCons (t : FG) (u : FGs) : FGs := fun ds ρ => match ds with
  | d :: r => (match t d ρ with
    | some ρ1 => u r ρ1
    | none => none)
  | [] => none
def gtT (n : Nat) (u : FGs) : FG := fun d ρ => match d with
  | .tuple ds => if ds.length = n then u ds ρ else none
  | _ => none
section
variable {X : Cx} {e a b : Expr} {es : List Expr} {pos p : Pos}
theorem pg_wk {t t' : TG} (h : PG X e t) (w : ∀ v σ H Q, t' v σ H Q → t v σ H Q) : PG X e t' := ⟨fun pins s σ H v u Q I r q => h.run pins s σ H v u Q I r (w v σ H Q q)⟩
theorem pgs_wk {t t' : TGs} (h : PGs X es t) (w : ∀ v σ H Q, t' v σ H Q → t v σ H Q) : PGs X es t' := ⟨fun pins s σ H v u Q I r q => h.run pins s σ H v u Q I r (w v σ H Q q)⟩
theorem ps_wk {st : Stmt} {t t' : TS} (h : PS X st t) (w : ∀ E σ H, t' E σ H → t E σ H) : PS X st t' := ⟨fun pins s σ H E I q => h.run pins s σ H E I (w E σ H q)⟩
theorem pss_wk {st : List Stmt} {t t' : TS} (h : PSs X st t) (w : ∀ E σ H, t' E σ H → t E σ H) : PSs X st t' := ⟨fun pins s σ H E I q => h.run pins s σ H E I (w E σ H q)⟩
theorem kept_set {σ : SL} (k : Nat) (v : Option V) : Kept [k] σ (σ.set k v) := ⟨fun j hj => List.getElem?_set_ne (fun z => hj (by rw [z]; simp)), by simp⟩
theorem dg_n {k : Nat} (h : PG X e (gName k)) : PG X e (dG X.K [k] (gtN k)) := pg_wk h fun v σ H Q ⟨a0, B, S0, S, ρ, d, ρ', R, r, f, q⟩ => by
  cases f
  exact q _ ((R.push_sh r).set k) (kept_set k _)
theorem dgs_nil : PGs X [] (dGs X.K [] gtNil) := pgs_wk pgs_nil fun v σ H Q ⟨a0, B, S0, S, ρ, d, ρ', R, r, f, q⟩ => by
  cases r with
  | nil => cases f; exact ⟨rfl, q σ R ⟨fun _ _ => rfl, rfl⟩⟩
  | cons r1 r2 => cases f
theorem dgs_cons {is js : List Nat} {t : FG} {u : FGs} (h1 : PG X e (dG X.K is t)) (h2 : PGs X es (dGs X.K js u)) (hs : (assignEach (e :: es) X.env).map (·.2) = assign e X.env :: (assignEach es X.env).map (·.2) := by rfl) : PGs X (e :: es) (dGs X.K (is ++ js) (gtCons t u)) :=
  pgs_wk (pgs_cons h1 h2 hs) fun v σ H Q ⟨a0, B, S0, S, ρ, d, ρ', R, r, f, q⟩ => by
    cases r with
    | nil => cases f
    | cons r1 r2 =>
      unfold gtCons at f
      dsimp only at f
      split at f
      · rename_i ρ1 e1
        refine ⟨_, _, rfl, a0, B, S0, S, ρ, _, ρ1, R, r1, e1, fun σ1 R1 k1 => ?_⟩
        refine ⟨a0, B, S0, S, ρ1, _, ρ', R1, r2, f, fun σ2 R2 k2 => q σ2 R2 ⟨fun j hj => ?_, k2.2.trans k1.2⟩⟩
        rw [k2.1 j (fun z => hj (List.mem_append_right _ z)), k1.1 j (fun z => hj (List.mem_append_left _ z))]
      · cases f
theorem dg_t {is : List Nat} {k n : Nat} {u : FGs} (hc : X.calm = true) (h : PGs X es (dGs X.K is u)) (hn : (assignEach es X.env).length = n := by rfl) (hst : (assignEach es X.env).findIdx? (·.1) = none := by rfl) : PG X (.Tuple es k pos) (dG X.K is (gtT n u)) :=
  pg_wk (pg_tup hc h hn hst) fun v σ H Q ⟨a0, B, S0, S, ρ, d, ρ', R, r, f, q⟩ => by
    unfold gtT at f
    split at f
    · rename_i ds
      split at f
      · rename_i hl
        cases r with
        | tup h1 h2 => exact ⟨_, _, rfl, sqT_mono R.sh h1.sq, by rw [h2.length, hl], a0, B, S0, S, ρ, ds, ρ', R, h2, f, q⟩
      · cases f
    · cases f

/-! ### statements -/
inductive Rs where
  | nx (ρ : En)
  | rt (sv : SV) (ρ : En)
  | bk (ρ : En)
  | ct (ρ : En)
abbrev FS := En → Option Rs
def EndOk (K : Fr8) (a0 : Addr) (B S0 S : Hp) (E : Ends) : Rs → Prop
  | .nx ρ => ∀ σ H S', Same S S' → Rl K a0 B S0 σ H S' ρ → E.nx σ H
  | .rt sv ρ => ∀ v σ H S', Same S S' → Rl K a0 B S0 (some v :: σ) H S' (sv :: ρ) → E.rt v H
  | .bk ρ => ∀ σ H S', Same S S' → Rl K a0 B S0 σ H S' ρ → E.bk σ H
  | .ct ρ => ∀ σ H S', Same S S' → Rl K a0 B S0 σ H S' ρ → E.ct σ H
theorem EndOk.mono {K : Fr8} {a0 : Addr} {B S0 S S1 : Hp} {E : Ends} {r : Rs} (m : Same S S1) (h : EndOk K a0 B S0 S E r) : EndOk K a0 B S0 S1 E r := by
  cases r with
  | nx ρ => exact fun σ H S' m' R => h σ H S' (m.trans m') R
  | rt sv ρ => exact fun v σ H S' m' R => h v σ H S' (m.trans m') R
  | bk ρ => exact fun σ H S' m' R => h σ H S' (m.trans m') R
  | ct ρ => exact fun σ H S' m' R => h σ H S' (m.trans m') R
def dS (K : Fr8) (f : FS) : TS := fun E σ H => ∃ a0 B S0 S ρ r, Rl K a0 B S0 σ H S ρ ∧ f ρ = some r ∧ EndOk K a0 B S0 S E r

def bNil : FS := fun ρ => some (.nx ρ)
theorem dss_nil : PSs X [] (dS X.K bNil) := pss_wk pss_nil fun E σ H ⟨a0, B, S0, S, ρ, r, R, f, q⟩ => by
  cases f; exact q σ H S (Same.refl _) R
def bSeq (f g : FS) : FS := fun ρ => match f ρ with
  | some (.nx ρ1) => g ρ1
  | r => r
theorem dss_cons {st : Stmt} {rest : List Stmt} {f g : FS} (h1 : PS X st (dS X.K f)) (h2 : PSs X rest (dS X.K g)) : PSs X (st :: rest) (dS X.K (bSeq f g)) := pss_wk (pss_cons h1 h2) fun E σ H ⟨a0, B, S0, S, ρ, r, R, ff, q⟩ => by
  unfold bSeq at ff
  split at ff
  · rename_i ρ1 e1
    refine ⟨a0, B, S0, S, ρ, _, R, e1, fun σ1 H1 S1 m1 R1 => ⟨a0, B, S0, S1, ρ1, r, R1, ff, q.mono m1⟩⟩
  · rename_i hne
    refine ⟨a0, B, S0, S, ρ, r, R, ff, ?_⟩
    cases r with
    | nx ρ1 => exact absurd ff (hne ρ1)
    | rt sv ρ1 => exact q
    | bk ρ1 => exact q
    | ct ρ1 => exact q
theorem dss_one {st : Stmt} {f : FS} (h1 : PS X st (dS X.K f)) : PSs X [st] (dS X.K f) := pss_one h1
theorem ds_pass : PS X (.Pass pos) (dS X.K bNil) := ps_wk ps_pass fun E σ H ⟨a0, B, S0, S, ρ, r, R, f, q⟩ => by
  cases f; exact q σ H S (Same.refl _) R
theorem ds_doc {x j pos pos'} : PS X (.Expr (.Constant (.str x) j pos) pos') (dS X.K bNil) := ps_wk ps_doc fun E σ H ⟨a0, B, S0, S, ρ, r, R, f, q⟩ => by
  cases f; exact q σ H S (Same.refl _) R
def bBk : FS := fun ρ => some (.bk ρ)
def bCt : FS := fun ρ => some (.ct ρ)
theorem ds_break : PS X (.Break pos) (dS X.K bBk) := ps_wk ps_break fun E σ H ⟨a0, B, S0, S, ρ, r, R, f, q⟩ => by
  cases f; exact q σ H S (Same.refl _) R
theorem ds_continue : PS X (.Continue pos) (dS X.K bCt) := ps_wk ps_continue fun E σ H ⟨a0, B, S0, S, ρ, r, R, f, q⟩ => by
  cases f; exact q σ H S (Same.refl _) R
def bRet (f : FE) : FS := fun ρ => ob2 (f ρ) fun d ρ1 => some (.rt (.sh d) ρ1)
def bRetO (f : FO) : FS := fun ρ => ob2 (f ρ) fun o ρ1 => some (.rt (.ow o) ρ1)
theorem ds_ret {f : FE} (h : PE X e (dE X.K f)) : PS X (.Return (some e) pos) (dS X.K (bRet f)) := ps_wk (ps_ret h) fun E σ H ⟨a0, B, S0, S, ρ, r, R, f, q⟩ => by
  obtain ⟨d, ρ1, e1, f⟩ := ob2_some f
  cases f
  exact ⟨a0, B, S0, S, ρ, d, ρ1, R, e1, fun v H1 S1 m1 R1 r1 => q v σ H1 S1 m1 (R1.push_sh r1)⟩
theorem ds_retO {f : FO} (h : PE X e (dO X.K f)) : PS X (.Return (some e) pos) (dS X.K (bRetO f)) := ps_wk (ps_ret h) fun E σ H ⟨a0, B, S0, S, ρ, r, R, f, q⟩ => by
  obtain ⟨d, ρ1, e1, f⟩ := ob2_some f
  cases f
  exact ⟨a0, B, S0, S, ρ, d, ρ1, R, e1, fun v H1 S1 m1 R1 => q v σ H1 S1 m1 R1⟩
/-- an owned local is handed back: it leaves its slot -/
def fMove (k : Nat) : FO := fun ρ => match ρ[k]? with
  | some (.ow o) => some (o, ρ.set k .un)
  | _ => none
theorem Rl.move {K : Fr8} {a0 : Addr} {B S0 S H : Hp} {σ : SL} {ρ : En} (R : Rl K a0 B S0 σ H S ρ) {k : Nat} {o : Ob} (h : ρ[k]? = some (.ow o)) : ∃ v, σ[k]? = some (some v) ∧ Rl K a0 B S0 (some v :: σ) H S (.ow o :: ρ.set k .un) := by
  obtain ⟨ft, h1, h2, h3⟩ := R.ex
  have q := h1 k
  rw [h] at q
  obtain ⟨a, e, ob⟩ := q
  have hk : k < ρ.length := by
    rcases Nat.lt_or_ge k ρ.length with z | z
    · exact z
    · rw [List.getElem?_eq_none z] at h; cases h
  refine ⟨.ref a, e, R.s0, R.sh, R.bb, R.fr, by simp [R.len], fun i => match i with | 0 => ft k | i + 1 => if i = k then [] else ft i, fun i => ?_, fun i j b hi hj => ?_, fun i b hb => ?_⟩
  · cases i with
    | zero => exact ⟨a, rfl, ob⟩
    | succ i =>
      dsimp only
      by_cases ei : i = k
      · subst ei
        rw [if_pos rfl, List.getElem?_cons_succ, List.getElem?_cons_succ, List.getElem?_set_self hk]
        rfl
      · rw [if_neg ei, List.getElem?_cons_succ, List.getElem?_cons_succ, List.getElem?_set_ne (fun z => ei z.symm)]
        exact h1 i
  · have pp : ∀ i, b ∈ (match i with | 0 => ft k | i + 1 => if i = k then [] else ft i : List Addr) → (i = 0 ∧ b ∈ ft k) ∨ ∃ i', i = i' + 1 ∧ i' ≠ k ∧ b ∈ ft i' := fun i hi => by
      cases i with
      | zero => exact .inl ⟨rfl, hi⟩
      | succ i =>
        dsimp only at hi
        by_cases ei : i = k
        · rw [if_pos ei] at hi; simp at hi
        · rw [if_neg ei] at hi; exact .inr ⟨i, rfl, ei, hi⟩
    rcases pp i hi with ⟨rfl, q1⟩ | ⟨i', rfl, n1, q1⟩ <;> rcases pp j hj with ⟨rfl, q2⟩ | ⟨j', rfl, n2, q2⟩
    · rfl
    · exact absurd (h2 _ _ b q2 q1) n2
    · exact absurd (h2 _ _ b q1 q2) n1
    · rw [h2 _ _ b q1 q2]
  · cases i with
    | zero => exact h3 k b hb
    | succ i =>
      dsimp only at hb
      by_cases ei : i = k
      · rw [if_pos ei] at hb; simp at hb
      · rw [if_neg ei] at hb; exact h3 i b hb
theorem do_move {k : Nat} (h : PE X e (tVar k)) : PE X e (dO X.K (fMove k)) := pe_wk h fun σ H Q ⟨a0, B, S0, S, ρ, d, ρ', R, f, q⟩ => by
  unfold fMove at f
  split at f
  · rename_i o hk
    cases f
    obtain ⟨v, h1, R1⟩ := R.move hk
    exact ⟨v, h1, q v H S (Same.refl _) R1⟩
  · cases f
def bIf (t : FT) (f g : FS) : FS := fun ρ => ob2 (t ρ) fun b ρ1 => if b = true then f ρ1 else g ρ1
theorem ds_if {c : Expr} {ss us : List Stmt} {t : FT} {f g : FS} (hc : PT X c (dT X.K t)) (ha : PSs X ss (dS X.K f)) (hb : PSs X us (dS X.K g)) : PS X (.If c ss us pos) (dS X.K (bIf t f g)) := ps_wk (ps_if hc ha hb) fun E σ H ⟨a0, B, S0, S, ρ, r, R, f, q⟩ => by
  obtain ⟨x, ρ1, e1, f⟩ := ob2_some f
  refine ⟨a0, B, S0, S, ρ, x, ρ1, R, e1, fun H1 S1 m1 R1 => ?_⟩
  cases x with
  | true => rw [if_pos rfl] at f ⊢; exact ⟨a0, B, S0, S1, ρ1, r, R1, f, q.mono m1⟩
  | false => rw [if_neg (by decide)] at f ⊢; exact ⟨a0, B, S0, S1, ρ1, r, R1, f, q.mono m1⟩
def bSet (k : Nat) (f : FE) : FS := fun ρ => ob2 (f ρ) fun d ρ1 => some (.nx (ρ1.set k (.sh d)))
def bSetO (k : Nat) (f : FO) : FS := fun ρ => ob2 (f ρ) fun o ρ1 => some (.nx (ρ1.set k (.ow o)))
theorem ds_set {st : Stmt} {k : Nat} {f : FE} (h : PS X st (tAsg (dE X.K f) (gName k))) : PS X st (dS X.K (bSet k f)) := ps_wk h fun E σ H ⟨a0, B, S0, S, ρ, r, R, f, q⟩ => by
  obtain ⟨d, ρ1, e1, f⟩ := ob2_some f
  cases f
  exact ⟨a0, B, S0, S, ρ, d, ρ1, R, e1, fun v H1 S1 m1 R1 r1 => q _ H1 S1 m1 ((R1.push_sh r1).set k)⟩
theorem ds_setO {st : Stmt} {k : Nat} {f : FO} (h : PS X st (tAsg (dO X.K f) (gName k))) : PS X st (dS X.K (bSetO k f)) := ps_wk h fun E σ H ⟨a0, B, S0, S, ρ, r, R, f, q⟩ => by
  obtain ⟨d, ρ1, e1, f⟩ := ob2_some f
  cases f
  exact ⟨a0, B, S0, S, ρ, d, ρ1, R, e1, fun v H1 S1 m1 R1 => q _ H1 S1 m1 (R1.set k)⟩
def bAsg (t : FG) (f : FE) : FS := fun ρ => ob2 (f ρ) fun d ρ1 => match t d ρ1 with
  | some ρ2 => some (.nx ρ2)
  | none => none
theorem ds_asg {st : Stmt} {is : List Nat} {t : FG} {f : FE} (h : PS X st (tAsg (dE X.K f) (dG X.K is t))) : PS X st (dS X.K (bAsg t f)) := ps_wk h fun E σ H ⟨a0, B, S0, S, ρ, r, R, f, q⟩ => by
  obtain ⟨d, ρ1, e1, f⟩ := ob2_some f
  split at f
  · rename_i ρ2 e2
    cases f
    exact ⟨a0, B, S0, S, ρ, d, ρ1, R, e1, fun v H1 S1 m1 R1 r1 => ⟨a0, B, S0, S1, ρ1, d, ρ2, R1, r1, e2, fun σ2 R2 _ => q σ2 H1 S1 m1 R2⟩⟩
  · cases f
def bDrop (f : FE) : FS := fun ρ => ob2 (f ρ) fun d ρ1 => some (.nx ρ1)
theorem ds_drop {st : Stmt} {f : FE} (h : PS X st (tDrop (dE X.K f))) : PS X st (dS X.K (bDrop f)) := ps_wk h fun E σ H ⟨a0, B, S0, S, ρ, r, R, f, q⟩ => by
  obtain ⟨d, ρ1, e1, f⟩ := ob2_some f
  cases f
  exact ⟨a0, B, S0, S, ρ, d, _, R, e1, fun v H1 S1 m1 R1 r1 => q σ H1 S1 m1 R1⟩
/-- what is in hand: shared or owned -/
abbrev FX := En → Option (SV × En)
def dX (K : Fr8) (f : FX) : TE := fun σ H Q => ∃ a0 B S0 S ρ o ρ', Rl K a0 B S0 σ H S ρ ∧ f ρ = some (o, ρ') ∧ (∀ u, o ≠ .pa u) ∧ ∀ v H' S', Same S S' → Rl K a0 B S0 (some v :: σ) H' S' (o :: ρ') → Q v H'
def xS (f : FE) : FX := fun ρ => ob2 (f ρ) fun d ρ1 => some (.sh d, ρ1)
def xO (f : FO) : FX := fun ρ => ob2 (f ρ) fun d ρ1 => some (.ow d, ρ1)
theorem dx_s {f : FE} (h : PE X e (dE X.K f)) : PE X e (dX X.K (xS f)) := pe_wk h fun σ H Q ⟨a0, B, S0, S, ρ, d, ρ', R, f, n, q⟩ => by
  obtain ⟨d, ρ1, e1, f⟩ := ob2_some f
  cases f
  exact ⟨a0, B, S0, S, ρ, d, _, R, e1, fun v H1 S1 m1 R1 r1 => q v H1 S1 m1 (R1.push_sh r1)⟩
theorem dx_o {f : FO} (h : PE X e (dO X.K f)) : PE X e (dX X.K (xO f)) := pe_wk h fun σ H Q ⟨a0, B, S0, S, ρ, d, ρ', R, f, n, q⟩ => by
  obtain ⟨d, ρ1, e1, f⟩ := ob2_some f
  cases f
  exact ⟨a0, B, S0, S, ρ, d, _, R, e1, fun v H1 S1 m1 R1 => q v H1 S1 m1 R1⟩
/-- x, y = a, b -/
def bPar (i j : Nat) (f g : FX) : FS := fun ρ => ob2 (f ρ) fun x ρ1 => ob2 (g ρ1) fun y ρ2 => some (.nx ((ρ2.set i x).set j y))
theorem xS_np {f : FE} {ρ ρ' : En} {o : SV} (h : xS f ρ = some (o, ρ')) : ∀ u, o ≠ .pa u := by
  obtain ⟨d, ρ1, e1, h⟩ := ob2_some h; cases h; intro u z; cases z
theorem xO_np {f : FO} {ρ ρ' : En} {o : SV} (h : xO f ρ = some (o, ρ')) : ∀ u, o ≠ .pa u := by
  obtain ⟨d, ρ1, e1, h⟩ := ob2_some h; cases h; intro u z; cases z
theorem Rl.swap {K : Fr8} {a0 : Addr} {B S0 S H : Hp} {σ : SL} {ρ : En} {x y : Option V} {s t : SV} (R : Rl K a0 B S0 (x :: y :: σ) H S (s :: t :: ρ)) : Rl K a0 B S0 (y :: x :: σ) H S (t :: s :: ρ) := by
  obtain ⟨ft, h1, h2, h3⟩ := R.ex
  let sw : Nat → Nat := fun i => match i with | 0 => 1 | 1 => 0 | i + 2 => i + 2
  have inj : ∀ i j, sw i = sw j → i = j := fun i j h => by
    rcases i with _ | _ | i <;> rcases j with _ | _ | j <;> simp only [sw] at h <;> omega
  refine ⟨R.s0, R.sh, R.bb, R.fr, by simpa using R.len, fun i => ft (sw i), fun i => ?_, fun i j a hi hj => inj _ _ (h2 _ _ a hi hj), fun i a ha => h3 _ a ha⟩
  rcases i with _ | _ | i
  · exact h1 1
  · exact h1 0
  · exact h1 (i + 2)
theorem ds_par {st : Stmt} {i j : Nat} {f g : FX} (nf : ∀ ρ ρ' o, f ρ = some (o, ρ') → ∀ u, o ≠ .pa u) (ng : ∀ ρ ρ' o, g ρ = some (o, ρ') → ∀ u, o ≠ .pa u) (h : PS X st (tPar i j (tCons (dX X.K f) (tCons (dX X.K g) tNil)))) : PS X st (dS X.K (bPar i j f g)) := ps_wk h fun E σ H ⟨a0, B, S0, S, ρ, r, R, ff, q⟩ => by
  obtain ⟨x, ρ1, e1, ff⟩ := ob2_some ff
  obtain ⟨y, ρ2, e2, ff⟩ := ob2_some ff
  cases ff
  refine ⟨a0, B, S0, S, ρ, x, ρ1, R, e1, nf _ _ _ e1, fun v H1 S1 m1 R1 => ?_⟩
  obtain ⟨B', R1', back⟩ := R1.hold (nf _ _ _ e1)
  refine ⟨a0, B', S0, S1, ρ1, y, ρ2, R1', e2, ng _ _ _ e2, fun u H2 S2 m2 R2 => ?_⟩
  have R3 := back _ _ _ _ m2 R2
  refine ⟨v, u, rfl, q _ H2 S2 (m1.trans m2) ?_⟩
  have R4 := R3.swap
  -- u on the top, v below
  have R5 := (R3.set (i + 1))
  simp only [List.set_cons_succ] at R5
  exact R5.set j

/-! ### loops -/
def YD (K : Fr8) (S H : Hp) (x : V) (H' : Hp) (d : D) : Prop := H' = H ∧ Rep K S x d
def ItD (K : Fr8) (S : Hp) (J : It) (ds : List D) : Prop := ∀ i H S1, Same S S1 → Same S1 H → (∀ d, ds[i]? = some d → J.go i H ∧ ∀ x H', J.yld i H x H' → YD K S1 H x H' d) ∧ (ds.length ≤ i → J.stop i H)
def dI (K : Fr8) (f : FL) : TI := fun σ H R => ∃ a0 B S0 S ρ ds ρ', Rl K a0 B S0 σ H S ρ ∧ f ρ = some (ds, ρ') ∧ ∀ J H' S', Same S S' → Rl K a0 B S0 σ H' S' ρ' → ItD K S' J ds → R J H'
theorem YD.go {K : Fr8} {a0 : Addr} {B S0 S H H' : Hp} {σ : SL} {ρ : En} {x : V} {d : D} (R : Rl K a0 B S0 σ H S ρ) (y : YD K S H x H' d) : ∃ S', Same S S' ∧ Rl K a0 B S0 σ H' S' ρ ∧ Rep K S' x d := by
  obtain ⟨rfl, r⟩ := y
  exact ⟨S, Same.refl _, R, r⟩
def forL (t : FG) (b : FS) : List D → FS
  | [], ρ => some (.nx ρ)
  | d :: ds, ρ => match t d ρ with
    | none => none
    | some ρ1 => match b ρ1 with
      | some (.nx ρ2) => forL t b ds ρ2
      | some (.ct ρ2) => forL t b ds ρ2
      | some (.bk ρ2) => some (.nx ρ2)
      | r => r
def bFor (fi : FL) (t : FG) (b : FS) : FS := fun ρ => ob2 (fi ρ) fun ds ρ1 => forL t b ds ρ1
theorem drop_cons {α : Type} {l : List α} {i : Nat} {d : α} {ds : List α} (h : l.drop i = d :: ds) : l[i]? = some d ∧ l.drop (i + 1) = ds ∧ i < l.length := by
  have hi : i < l.length := by
    rcases Nat.lt_or_ge i l.length with z | z
    · exact z
    · rw [List.drop_eq_nil_of_le z] at h; cases h
  rw [List.drop_eq_getElem_cons hi] at h
  injection h with h1 h2
  exact ⟨by rw [List.getElem?_eq_getElem hi, h1], h2, hi⟩
theorem ds_for {st : Stmt} {is : List Nat} {fi : FL} {t : FG} {b : FS} (h : PS X st (tFor (dI X.K fi) (dG X.K is t) (dS X.K b))) : PS X st (dS X.K (bFor fi t b)) := ps_wk h fun E σ H ⟨a0, B, S0, S, ρ, r, R, f, q⟩ => by
  obtain ⟨ds, ρ1, e1, f⟩ := ob2_some f
  refine ⟨a0, B, S0, S, ρ, ds, ρ1, R, e1, fun J H1 S1 m1 R1 it => ?_⟩
  refine ⟨fun i m σ H => m = ds.length - i ∧ ∃ S2 ρ2, Same S1 S2 ∧ Rl X.K a0 B S0 σ H S2 ρ2 ∧ forL t b (ds.drop i) ρ2 = some r, ⟨ds.length, by simp, S1, ρ1, Same.refl _, R1, f⟩, ?_⟩
  rintro i m σ2 H2 ⟨rfl, S2, ρ2, m2, R2, f2⟩
  have itt := it i H2 S2 m2 R2.sh
  cases hd : ds.drop i with
  | nil =>
    rw [hd] at f2
    cases f2
    have hl : ds.length ≤ i := by
      have := congrArg List.length hd
      simp at this; omega
    exact .inl ⟨itt.2 hl, q σ2 H2 S2 (m1.trans m2) R2⟩
  | cons d rest =>
    obtain ⟨g1, g2, g3⟩ := drop_cons hd
    rw [hd] at f2
    unfold forL at f2
    split at f2
    · cases f2
    · rename_i ρ3 e3
      have go := itt.1 d g1
      refine .inr ⟨go.1, fun σ' H' => ∃ S' ρ', Same S1 S' ∧ Rl X.K a0 B S0 σ' H' S' ρ' ∧ forL t b rest ρ' = some r, fun σ' H' ⟨S', ρ', k1, k2, k3⟩ => ⟨ds.length - (i + 1), by omega, rfl, S', ρ', k1, k2, by rw [g2]; exact k3⟩, fun x H' y => ?_⟩
      obtain ⟨S3, m3, R3, r3⟩ := (go.2 x H' y).go R2
      refine ⟨a0, B, S0, S3, ρ2, d, ρ3, R3, r3, e3, fun σ4 R4 _ => ?_⟩
      have mm : Same S1 S3 := m2.trans m3
      split at f2
      · rename_i ρ5 e5
        exact ⟨a0, B, S0, S3, ρ3, _, R4, e5, fun σ5 H5 S5 m5 R5 => ⟨S5, ρ5, mm.trans m5, R5, f2⟩⟩
      · rename_i ρ5 e5
        exact ⟨a0, B, S0, S3, ρ3, _, R4, e5, fun σ5 H5 S5 m5 R5 => ⟨S5, ρ5, mm.trans m5, R5, f2⟩⟩
      · rename_i ρ5 e5
        cases f2
        exact ⟨a0, B, S0, S3, ρ3, _, R4, e5, fun σ5 H5 S5 m5 R5 => q σ5 H5 S5 (m1.trans (mm.trans m5)) R5⟩
      · rename_i n1 n2 n3
        refine ⟨a0, B, S0, S3, ρ3, r, R4, f2, ?_⟩
        cases r with
        | nx ρ5 => exact absurd f2 (n1 ρ5)
        | ct ρ5 => exact absurd f2 (n2 ρ5)
        | bk ρ5 => exact absurd f2 (n3 ρ5)
        | rt sv ρ5 => exact fun v σ5 H5 S5 m5 R5 => q v σ5 H5 S5 (m1.trans (mm.trans m5)) R5
def bWhile : Nat → FT → FS → FS
  | 0, _, _, _ => none
  | n + 1, c, b, ρ => ob2 (c ρ) fun x ρ1 => if x = true then (match b ρ1 with
      | some (.nx ρ2) => bWhile n c b ρ2
      | some (.ct ρ2) => bWhile n c b ρ2
      | some (.bk ρ2) => some (.nx ρ2)
      | r => r) else some (.nx ρ1)
theorem ds_while {st : Stmt} {c : FT} {b : FS} (n : Nat) (h : PS X st (tWhile (dT X.K c) (dS X.K b))) : PS X st (dS X.K (bWhile n c b)) := ps_wk h fun E σ H ⟨a0, B, S0, S, ρ, r, R, f, q⟩ => by
  refine ⟨fun m σ H => ∃ S2 ρ2, Same S S2 ∧ Rl X.K a0 B S0 σ H S2 ρ2 ∧ bWhile m c b ρ2 = some r, ⟨n, S, ρ, Same.refl _, R, f⟩, ?_⟩
  rintro m σ2 H2 ⟨S2, ρ2, m2, R2, f2⟩
  cases m with
  | zero => cases f2
  | succ m =>
    unfold bWhile at f2
    obtain ⟨x, ρ3, e3, f2⟩ := ob2_some f2
    refine ⟨a0, B, S0, S2, ρ2, x, ρ3, R2, e3, fun H3 S3 m3 R3 => ?_⟩
    have mm : Same S S3 := m2.trans m3
    cases x with
    | false =>
      dsimp only
      rw [if_neg (by decide)] at f2 ⊢; cases f2; exact q σ2 H3 S3 mm R3
    | true =>
      dsimp only
      rw [if_pos rfl] at f2 ⊢
      refine ⟨fun σ' H' => ∃ S' ρ', Same S S' ∧ Rl X.K a0 B S0 σ' H' S' ρ' ∧ bWhile m c b ρ' = some r, fun σ' H' k => ⟨m, Nat.lt_succ_self m, k⟩, ?_⟩
      split at f2
      · rename_i ρ5 e5
        exact ⟨a0, B, S0, S3, ρ3, _, R3, e5, fun σ5 H5 S5 m5 R5 => ⟨S5, ρ5, mm.trans m5, R5, f2⟩⟩
      · rename_i ρ5 e5
        exact ⟨a0, B, S0, S3, ρ3, _, R3, e5, fun σ5 H5 S5 m5 R5 => ⟨S5, ρ5, mm.trans m5, R5, f2⟩⟩
      · rename_i ρ5 e5
        cases f2
        exact ⟨a0, B, S0, S3, ρ3, _, R3, e5, fun σ5 H5 S5 m5 R5 => q σ5 H5 S5 (mm.trans m5) R5⟩
      · rename_i n1 n2 n3
        refine ⟨a0, B, S0, S3, ρ3, r, R3, f2, ?_⟩
        cases r with
        | nx ρ5 => exact absurd f2 (n1 ρ5)
        | ct ρ5 => exact absurd f2 (n2 ρ5)
        | bk ρ5 => exact absurd f2 (n3 ρ5)
        | rt sv ρ5 => exact fun v σ5 H5 S5 m5 R5 => q v σ5 H5 S5 (mm.trans m5) R5

/-! ### what is walked -/
def fIt (f : FE) : FL := fun ρ => ob2 (f ρ) fun d ρ1 => match d with
  | .list ds => some (ds, ρ1)
  | .tuple ds => some (ds, ρ1)
  | _ => none
theorem pi_wk {tg : Expr} {t t' : TI} (h : PI X tg e t) (w : ∀ σ H R, t' σ H R → t σ H R) : PI X tg e t' := ⟨fun pins s σ H R I q => h.run pins s σ H R I (w σ H R q)⟩
theorem itd_list {K : Fr8} {S : Hp} {a : Addr} {xs : List V} {ds : List D} (h : S a = some (.lst xs)) (r : RepA K S xs ds) : ItD K S (Itl K a) ds := fun i H S1 m m' => by
  have q : SqL K H a xs := .inl (.inl (m' _ _ (m _ _ h)))
  refine ⟨fun d hd => ?_, fun hl => ⟨xs, q, by rw [r.length]; exact hl⟩⟩
  obtain ⟨v, hv, rv⟩ := r.get hd
  refine ⟨⟨xs, v, q, hv⟩, fun x H' y => ?_⟩
  obtain ⟨rfl, y⟩ := y
  have := y xs q
  rw [hv] at this
  cases this
  exact ⟨rfl, rv.mono m⟩
theorem itd_tup {K : Fr8} {S : Hp} {a : Addr} {xs : List V} {ds : List D} (h : SqT K S a xs) (r : RepA K S xs ds) : ItD K S (Itt K a) ds := fun i H S1 m m' => by
  have q : SqT K H a xs := sqT_mono m' (sqT_mono m h)
  refine ⟨fun d hd => ?_, fun hl => ⟨xs, q, by rw [r.length]; exact hl⟩⟩
  obtain ⟨v, hv, rv⟩ := r.get hd
  refine ⟨⟨xs, v, q, hv⟩, fun x H' y => ?_⟩
  obtain ⟨rfl, y⟩ := y
  have := y xs q
  rw [hv] at this
  cases this
  exact ⟨rfl, rv.mono m⟩
theorem di_it {tg : Expr} {f : FE} (h : PE X e (dE X.K f)) : PI X tg e (dI X.K (fIt f)) := ⟨fun pins s σ H R I ⟨a0, B, S0, S, ρ, d, ρ', Rr, ff, q⟩ => by
  obtain ⟨d, ρ1, e1, ff⟩ := ob2_some ff
  split at ff
  · cases ff
    refine (pi_list h).run pins s σ H R I ⟨a0, B, S0, S, ρ, _, _, Rr, e1, fun v H1 S1 m1 R1 r1 => ?_⟩
    cases r1 with
    | lst h1 h2 => exact ⟨_, rfl, ⟨_, .inl (.inl (R1.sh _ _ h1))⟩, q _ H1 S1 m1 R1 (itd_list h1 h2)⟩
  · cases ff
    refine (pi_tup h).run pins s σ H R I ⟨a0, B, S0, S, ρ, _, _, Rr, e1, fun v H1 S1 m1 R1 r1 => ?_⟩
    cases r1 with
    | tup h1 h2 => exact ⟨_, rfl, ⟨_, sqT_mono R1.sh h1.sq⟩, q _ H1 S1 m1 R1 (itd_tup h1.sq h2)⟩
  · cases ff⟩
def upI (lo : Int) (n : Nat) : List D := (List.range n).map fun (i : Nat) => PyData.int (lo + (i : Int))
def fR1 (fl : FL) : FL := fun ρ => ob2 (fl ρ) fun ds ρ1 => match ds with
  | [.int j] => if -(2 ^ 62) ≤ j ∧ j < 2 ^ 62 then some (upI 0 j.toNat, ρ1) else none
  | _ => none
def fR2 (fl : FL) : FL := fun ρ => ob2 (fl ρ) fun ds ρ1 => match ds with
  | [.int i, .int j] => if -(2 ^ 62) ≤ i ∧ i < 2 ^ 62 ∧ -(2 ^ 62) ≤ j ∧ j < 2 ^ 62 then some (upI i (j - i).toNat, ρ1) else none
  | _ => none
/-- range(a, b, -1) -/
def downI (lo : Int) (n : Nat) : List D := (List.range n).map fun (i : Nat) => PyData.int (lo + (i : Int) * (-1))
def fR3 (fl : FL) : FL := fun ρ => ob2 (fl ρ) fun ds ρ1 => match ds with
  | [.int i, .int j, .int c] => if c = -1 ∧ -(2 ^ 62) ≤ i ∧ i < 2 ^ 62 ∧ -(2 ^ 62) ≤ j ∧ j < 2 ^ 62 then some (downI i (i - j).toNat, ρ1) else none
  | _ => none
theorem itd_r {K : Fr8} {S : Hp} (lo : Int) (n : Nat) : ItD K S (Itr lo n) (upI lo n) := fun i H S1 m m' => by
  refine ⟨fun d hd => ?_, fun hl => show n ≤ i from (by simpa [upI] using hl)⟩
  unfold upI at hd
  rw [List.getElem?_map] at hd
  by_cases hi : i < n
  · rw [List.getElem?_range hi] at hd
    cases hd
    refine ⟨hi, fun x H' ⟨y1, y2⟩ => ?_⟩
    subst y1 y2
    exact ⟨rfl, .int _⟩
  · rw [List.getElem?_eq_none (by simpa using hi)] at hd; cases hd
theorem itd_rc {K : Fr8} {S : Hp} (lo : Int) (n : Nat) : ItD K S (Itc lo (-1) n) (downI lo n) := fun i H S1 m m' => by
  refine ⟨fun d hd => ?_, fun hl => show n ≤ i from (by simpa [downI] using hl)⟩
  unfold downI at hd
  rw [List.getElem?_map] at hd
  by_cases hi : i < n
  · rw [List.getElem?_range hi] at hd
    cases hd
    refine ⟨hi, fun x H' ⟨y1, y2⟩ => ?_⟩
    subst y1 y2
    exact ⟨rfl, .int _⟩
  · rw [List.getElem?_eq_none (by simpa using hi)] at hd; cases hd
theorem di_r1 {tg : Expr} {fl : FL} (hg : Gl X "range") (hm : X.mg "range" = none) (ha : PA X [a] (dA X.K fl)) (hs : starEach [a] X.env = [(false, eval a X.env)] := by rfl) : PI X tg (.Call (.Name "range" p) [a] [] pos) (dI X.K (fR1 fl)) :=
  pi_wk (pi_range1 hg hm ha hs) fun σ H R ⟨a0, B, S0, S, ρ, d, ρ', Rr, ff, q⟩ => by
    obtain ⟨ds, ρ1, e1, ff⟩ := ob2_some ff
    split at ff
    · split at ff
      · rename_i hj
        cases ff
        refine ⟨a0, B, S0, S, ρ, _, _, Rr, e1, fun vs H1 S1 m1 R1 r1 => ?_⟩
        cases r1 with
        | cons r1 r2 =>
          cases r1; cases r2
          exact ⟨_, rfl, hj.1, hj.2, q _ H1 S1 m1 R1 (itd_r _ _)⟩
      · cases ff
    · cases ff
theorem di_r2 {tg : Expr} {fl : FL} (hg : Gl X "range") (hm : X.mg "range" = none) (ha : PA X [a, b] (dA X.K fl)) (hs : starEach [a, b] X.env = [(false, eval a X.env), (false, eval b X.env)] := by rfl) (hs2 : starEach [b] X.env = [(false, eval b X.env)] := by rfl) :
    PI X tg (.Call (.Name "range" p) [a, b] [] pos) (dI X.K (fR2 fl)) :=
  pi_wk (pi_range2 hg hm ha hs hs2) fun σ H R ⟨a0, B, S0, S, ρ, d, ρ', Rr, ff, q⟩ => by
    obtain ⟨ds, ρ1, e1, ff⟩ := ob2_some ff
    split at ff
    · split at ff
      · rename_i hj
        cases ff
        refine ⟨a0, B, S0, S, ρ, _, _, Rr, e1, fun vs H1 S1 m1 R1 r1 => ?_⟩
        cases r1 with
        | cons r1 r2 =>
          cases r2 with
          | cons r2 r3 =>
            cases r1; cases r2; cases r3
            exact ⟨_, _, rfl, hj, q _ H1 S1 m1 R1 (itd_r _ _)⟩
      · cases ff
    · cases ff
theorem di_r3 {c tg : Expr} {fl : FL} (hg : Gl X "range") (hm : X.mg "range" = none) (ha : PA X [a, b, c] (dA X.K fl))
    (hs : starEach [a, b, c] X.env = (false, eval a X.env) :: starEach [b, c] X.env := by rfl) (hpl : (backTo pos (starEach [b, c] X.env)).any (·.1) = false := by rfl) :
    PI X tg (.Call (.Name "range" p) [a, b, c] [] pos) (dI X.K (fR3 fl)) :=
  pi_wk (pi_range3 hg hm ha hs hpl) fun σ H R ⟨a0, B, S0, S, ρ, d, ρ', Rr, ff, q⟩ => by
    obtain ⟨ds, ρ1, e1, ff⟩ := ob2_some ff
    split at ff
    · split at ff
      · rename_i hj
        obtain ⟨rfl, h1, h2, h3, h4⟩ := hj
        cases ff
        refine ⟨a0, B, S0, S, ρ, _, _, Rr, e1, fun vs H1 S1 m1 R1 r1 => ?_⟩
        cases r1 with
        | cons r1 r2 =>
          cases r2 with
          | cons r2 r3 =>
            cases r3 with
            | cons r3 r4 =>
              cases r1; cases r2; cases r3; cases r4
              exact ⟨_, _, _, _, rfl, RgC.neg h1 h2 h3 h4, q _ H1 S1 m1 R1 (itd_rc _ _)⟩
      · cases ff
    · cases ff

/-! ### list comprehensions -/
def wipeE (ρ : En) : List Nat → En
  | [] => ρ
  | v :: vs => (wipeE ρ vs).set v .un
theorem wipe_get {σ : SL} {i : Nat} : ∀ {vs : List Nat}, i ∉ vs → (wipe σ vs)[i]? = σ[i]?
  | [], _ => rfl
  | v :: vs, h => by
    unfold wipe
    rw [List.getElem?_set_ne (fun z => h (by rw [z]; simp))]
    exact wipe_get fun z => h (List.mem_cons_of_mem _ z)
theorem Rl.rewipe {K : Fr8} {a0 : Addr} {B S0 S H : Hp} {σ : SL} {ρ : En} (R : Rl K a0 B S0 σ H S ρ) (vs : List Nat) {σ' : SL} (h : ∀ i, i ∉ vs → σ'[i]? = σ[i]?) (hl : σ'.length = σ.length) : Rl K a0 B S0 σ' H S (wipeE ρ vs) := by
  have key : ∀ vs : List Nat, Rl K a0 B S0 σ H S (wipeE ρ vs) ∧ (wipeE ρ vs).length = ρ.length ∧ ∀ i, i ∈ vs → i < ρ.length → (wipeE ρ vs)[i]? = some .un := by
    intro vs
    induction vs with
    | nil => exact ⟨R, rfl, fun i hi => by simp at hi⟩
    | cons v vs ih =>
      obtain ⟨h1, h2, h3⟩ := ih
      refine ⟨?_, by unfold wipeE; rw [List.length_set, h2], fun i hi hl => ?_⟩
      · have := h1.wipe1 v ((σ[v]?).getD none)
        have e : σ.set v ((σ[v]?).getD none) = σ := by
          by_cases hv : v < σ.length
          · rw [List.getElem?_eq_getElem hv]
            exact List.set_getElem_self hv
          · exact List.set_eq_of_length_le (by omega)
        rw [e] at this
        exact this
      · unfold wipeE
        by_cases e : v = i
        · subst e; rw [List.getElem?_set_self (by rw [h2]; exact hl)]
        · rw [List.getElem?_set_ne e]
          rcases List.mem_cons.mp hi with z | z
          · exact absurd z.symm e
          · exact h3 i z hl
  obtain ⟨R', l', un⟩ := key vs
  obtain ⟨ft, h1, h2, h3⟩ := R'.ex
  refine ⟨R'.s0, R'.sh, R'.bb, R'.fr, by rw [hl]; exact R'.len, ft, fun i => ?_, h2, h3⟩
  by_cases hi : i ∈ vs
  · by_cases hlt : i < ρ.length
    · have q := h1 i
      rw [un i hi hlt] at q ⊢
      exact q

    · have q := h1 i
      have l2 : σ.length = ρ.length := R.len
      rw [List.getElem?_eq_none (l := wipeE ρ vs) (by omega)] at q ⊢
      exact q
  · rw [h i hi]; exact h1 i
def fYes : FT := fun ρ => some (true, ρ)
theorem dts_nil : PTs X [] (dT X.K fYes) := ⟨fun pins s σ H Q I ⟨a0, B, S0, S, ρ, d, ρ', R, f, q⟩ => by
  cases f
  exact pts_nil.run pins s σ H Q I (q H S (Same.refl _) R)⟩
theorem dts_one {c : Expr} {t : FT} (h : PT X c (dT X.K t)) : PTs X [c] (dT X.K t) := pts_one h
def lcL (t : FG) (c : FT) (el : FE) (vs : List Nat) : List D → En → List D → Option (List D × En)
  | [], ρ, acc => some (acc, ρ)
  | d :: ds, ρ, acc => match t d ρ with
    | none => none
    | some ρ1 => ob2 (c ρ1) fun b ρ2 => if b = true then ob2 (el ρ2) fun y ρ3 => lcL t c el vs ds (wipeE ρ3 vs) (acc ++ [y]) else lcL t c el vs ds (wipeE ρ2 vs) acc
def fLc (fi : FL) (t : FG) (c : FT) (el : FE) (vs : List Nat) : FO := fun ρ => ob2 (fi ρ) fun ds ρ1 => if ds.length ≤ 1000000 then ob2 (lcL t c el vs ds (wipeE ρ1 vs) []) fun acc ρ2 => some (.lst acc, wipeE ρ2 vs) else none
theorem kept_wipe {is vs : List Nat} (hv : ∀ i ∈ is, i ∈ vs) {σ σ' : SL} (k : Kept is (wipe σ vs) σ') : wipe σ' vs = wipe σ vs := by
  have gg : ∀ (τ : SL) (ws : List Nat) (i : Nat), i ∈ ws → i < τ.length → (wipe τ ws)[i]? = some none := by
    intro τ ws
    induction ws with
    | nil => intro i hi; simp at hi
    | cons w ws ih =>
      intro i hi hl
      unfold wipe
      by_cases e : w = i
      · subst e; rw [List.getElem?_set_self (by rw [wipe_length]; exact hl)]
      · rw [List.getElem?_set_ne e]
        rcases List.mem_cons.mp hi with z | z
        · exact absurd z.symm e
        · exact ih i z hl
  have hl : σ'.length = σ.length := by rw [k.2, wipe_length]
  apply List.ext_getElem?
  intro i
  by_cases hi : i ∈ vs
  · by_cases h : i < σ.length
    · rw [gg σ' vs i hi (by omega), gg σ vs i hi h]
    · rw [List.getElem?_eq_none (by rw [wipe_length]; omega), List.getElem?_eq_none (by rw [wipe_length]; omega)]
  · rw [wipe_get hi, k.1 i (fun z => hi (hv i z))]
theorem lcL_len {t : FG} {c : FT} {el : FE} {vs : List Nat} : ∀ {ds : List D} {ρ : En} {acc : List D} {out : List D} {ρ' : En}, lcL t c el vs ds ρ acc = some (out, ρ') → acc.length ≤ out.length ∧ out.length ≤ acc.length + ds.length
  | [], ρ, acc, out, ρ', h => by cases h; simp
  | d :: ds, ρ, acc, out, ρ', h => by
    unfold lcL at h
    split at h
    · cases h
    · obtain ⟨b, ρ2, e2, h⟩ := ob2_some h
      split at h
      · obtain ⟨y, ρ3, e3, h⟩ := ob2_some h
        have := lcL_len h
        simp at this ⊢; omega
      · have := lcL_len h
        simp at this ⊢; omega
theorem tlc_go {K : Fr8} {is vs : List Nat} {fi : FL} {t : FG} {c : FT} {el : FE} (hv : ∀ i ∈ is, i ∈ vs) {σ : SL} {H : Hp} {Q : VK} (h : dO K (fLc fi t c el vs) σ H Q) : tLc (dI K fi) (dG K is t) (dT K c) (dE K el) vs σ H Q := by
  obtain ⟨a0, B, S0, S, ρ, o, ρ', R, f, q⟩ := h
  obtain ⟨ds, ρ1, e1, f⟩ := ob2_some f
  split at f
  case isFalse => cases f
  rename_i hsz
  obtain ⟨acc, ρ2, e2, f⟩ := ob2_some f
  cases f
  refine ⟨a0, B, S0, S, ρ, ds, ρ1, R, e1, fun J H1 S1 m1 R1 it Dd hD => ?_⟩
  have hS0 : S0 Dd = none := R1.s0.free (R1.sn hD)
  have hB : B Dd = none := R1.bb.free hD
  refine ⟨fun i m H => m = ds.length - i ∧ ∃ S2 ρ2' xs a1, Same S1 S2 ∧ Rl K a0 (upd B Dd (.lst xs)) S0 (wipe σ vs) H S2 ρ2' ∧ RepA K S2 xs a1 ∧ a1.length ≤ i ∧ lcL t c el vs (ds.drop i) ρ2' a1 = some (acc, ρ2),
    ⟨ds.length, by simp, S1, wipeE ρ1 vs, [], [], Same.refl _, ?_, .nil, by simp, e2⟩, ?_⟩
  · exact (R1.frame hD _).rewipe vs (fun i hi => wipe_get hi) (wipe_length _ _)
  rintro i m H2 ⟨rfl, S2, ρ3, xs, a1, m2, R2, ra, hl1, f2⟩
  have itt := it i H2 S2 m2 R2.sh
  cases hd : ds.drop i with
  | nil =>
    rw [hd] at f2
    cases f2
    have hl : ds.length ≤ i := by
      have := congrArg List.length hd
      simp at this; omega
    refine .inl ⟨itt.2 hl, q _ H2 S2 (m1.trans m2) ?_⟩
    have R3 := R2.rewipe vs (σ' := σ) (fun i hi => (wipe_get hi).symm) (wipe_length _ _).symm
    exact R3.unframe hB hS0 (o := .lst acc) ⟨rfl, xs, R3.bb _ _ upd_same, ra⟩
  | cons d rest =>
    obtain ⟨g1, g2, g3⟩ := drop_cons hd
    rw [hd] at f2
    unfold lcL at f2
    split at f2
    · cases f2
    · rename_i ρ4 e4
      obtain ⟨bb, ρ5, e5, f2⟩ := ob2_some f2
      have go := itt.1 d g1
      refine .inr ⟨go.1, fun H' => ∃ S' ρ' xs a1, Same S1 S' ∧ Rl K a0 (upd B Dd (.lst xs)) S0 (wipe σ vs) H' S' ρ' ∧ RepA K S' xs a1 ∧ a1.length ≤ i + 1 ∧ lcL t c el vs rest ρ' a1 = some (acc, ρ2), fun H' ⟨S', ρ', ys, a2, k1, k2, k3, k4, k5⟩ => ⟨ds.length - (i + 1), by omega, rfl, S', ρ', ys, a2, k1, k2, k3, k4, by rw [g2]; exact k5⟩, fun x H' y => ?_⟩
      obtain ⟨S3, m3, R3, r3⟩ := (go.2 x H' y).go R2
      refine ⟨a0, _, S0, S3, ρ3, d, ρ4, R3, r3, e4, fun σ4 R4 kk => ⟨kept_wipe hv kk, ?_⟩⟩
      have kw := kept_wipe hv kk
      refine ⟨a0, _, S0, S3, ρ4, bb, ρ5, R4, e5, fun H5 S5 m5 R5 => ?_⟩
      cases bb with
      | false =>
        rw [if_neg (by decide)] at f2 ⊢
        refine ⟨S5, wipeE ρ5 vs, xs, a1, m2.trans (m3.trans m5), ?_, ra.mono (m3.trans m5), by omega, f2⟩
        have := R5.rewipe vs (σ' := wipe σ4 vs) (fun i hi => wipe_get hi) (wipe_length _ _)
        rw [kw] at this; exact this
      | true =>
        rw [if_pos rfl] at f2 ⊢
        obtain ⟨yv, ρ6, e6, f2⟩ := ob2_some f2
        refine ⟨a0, _, S0, S5, ρ5, yv, ρ6, R5, e6, fun v6 H6 S6 m6 R6 r6 => ?_⟩
        have mm : Same S2 S6 := m3.trans (m5.trans m6)
        obtain ⟨n1, n2, n3⟩ := R6.reframe hS0 (.lst (xs ++ [v6]))
        refine ⟨xs, n2, ?_, S6, wipeE ρ6 vs, xs ++ [v6], a1 ++ [yv], m2.trans mm, ?_, (ra.mono mm).append (.cons r6 .nil), by simp; omega, f2⟩
        · rw [ra.length]
          exact Nat.lt_of_le_of_lt (Nat.le_trans hl1 (Nat.le_trans (Nat.le_of_lt g3) hsz)) (by decide)
        · have := n3.rewipe vs (σ' := wipe σ4 vs) (fun i hi => wipe_get hi) (wipe_length _ _)
          rw [kw] at this; exact this
theorem do_lc {is vs : List Nat} {fi : FL} {t : FG} {c : FT} {el : FE} (hv : ∀ i ∈ is, i ∈ vs) (h : PE X e (tLc (dI X.K fi) (dG X.K is t) (dT X.K c) (dE X.K el) vs)) : PE X e (dO X.K (fLc fi t c el vs)) := pe_wk h fun σ H Q q => tlc_go hv q
theorem ds_setLcO {st : Stmt} {k : Nat} {is vs : List Nat} {fi : FL} {t : FG} {c : FT} {el : FE} (hv : ∀ i ∈ is, i ∈ vs) (h : PS X st (tAsg (tLc (dI X.K fi) (dG X.K is t) (dT X.K c) (dE X.K el) vs) (gName k))) : PS X st (dS X.K (bSetO k (fLc fi t c el vs))) :=
  ds_setO (ps_wk h fun E σ H q => tlc_go hv q)
theorem fz_go {K : Fr8} {f : FO} {σ : SL} {H : Hp} {Q : VK} (h : dE K (fFrz f) σ H Q) : dO K f σ H Q := by
  obtain ⟨a0, B, S0, S, ρ, d, ρ', R, ff, q⟩ := h
  obtain ⟨x, ρ1, e1, ff⟩ := ob2_some ff
  split at ff
  · cases ff
    refine ⟨a0, B, S0, S, ρ, _, _, R, e1, fun v H1 S1 m1 R1 => ?_⟩
    obtain ⟨a, S', h1, m, r, R'⟩ := R1.freeze (k := 0) rfl
    cases h1
    exact q _ H1 S' (m1.trans m) R'.pop r
  · cases ff
theorem ds_setLc {st : Stmt} {k : Nat} {is vs : List Nat} {fi : FL} {t : FG} {c : FT} {el : FE} (hv : ∀ i ∈ is, i ∈ vs) (h : PS X st (tAsg (tLc (dI X.K fi) (dG X.K is t) (dT X.K c) (dE X.K el) vs) (gName k))) : PS X st (dS X.K (bSet k (fFrz (fLc fi t c el vs)))) :=
  ds_set (ps_wk h fun E σ H q => tlc_go hv (fz_go q))

/-! ### methods that change an owned list -/
def rM (K : Fr8) (g : List D → List D → Option (D × List D)) : V → List V → Hp → VK → Prop := fun x vs H Q => ∃ S a xs ds ads ret ds', x = .ref a ∧ H a = some (.lst xs) ∧ Same S H ∧ RepA K S xs ds ∧ RepA K S vs ads ∧ g ds ads = some (ret, ds') ∧ ∀ v xs', Rep K S v ret → RepA K S xs' ds' → Q v (upd H a (.lst xs'))
def fMeth (k : Nat) (g : List D → List D → Option (D × List D)) (fl : FL) : FE := fun ρ => ob2 (fl ρ) fun ads ρ1 => match ρ1[k]? with
  | some (.ow (.lst ds)) => (match g ds ads with
    | some (ret, ds') => some (ret, ρ1.set k (.ow (.lst ds')))
    | none => none)
  | _ => none
end
end DL

set_option Elab.async false
set_option linter.all false
set_option maxRecDepth 100000
set_option maxHeartbeats 4000000
/-! DL, part d: operators, built-ins, dicts over data. -/
namespace DL
open PySem PySem.Spec PyProof.Rows L2
section
variable {X : Cx} {e a b : Expr} {es : List Expr} {pos p : Pos}
theorem opr_or {f : Value → Value → Sem Value} {r1 r2 : R2} (h1 : OpR X f r1) (h2 : OpR X f r2) : OpR X f (fun x y H Q => r1 x y H Q ∨ r2 x y H Q) := fun pins s σ H x y v u Q I rx ry h => by
  rcases h with h | h
  · exact h1 pins s σ H x y v u Q I rx ry h
  · exact h2 pins s σ H x y v u Q I rx ry h
theorem opr_wk {f : Value → Value → Sem Value} {r r' : R2} (h : OpR X f r) (w : ∀ x y H Q, r' x y H Q → r x y H Q) : OpR X f r' := fun pins s σ H x y v u Q I rx ry q => h pins s σ H x y v u Q I rx ry (w x y H Q q)
theorem ixr_or {r1 r2 : R2} (h1 : IxR X r1) (h2 : IxR X r2) : IxR X (fun x y H Q => r1 x y H Q ∨ r2 x y H Q) := fun va sl pins s σ H x y v u Q I rx ry h => by
  rcases h with h | h
  · exact h1 va sl pins s σ H x y v u Q I rx ry h
  · exact h2 va sl pins s σ H x y v u Q I rx ry h
theorem ixr_wk {r r' : R2} (h : IxR X r) (w : ∀ x y H Q, r' x y H Q → r x y H Q) : IxR X r' := fun va sl pins s σ H x y v u Q I rx ry q => h va sl pins s σ H x y v u Q I rx ry (w x y H Q q)
theorem cr_or {f : Value} {r1 r2 : List V → Hp → VK → Prop} (h1 : CallR X f r1) (h2 : CallR X f r2) : CallR X f (fun xs H Q => r1 xs H Q ∨ r2 xs H Q) := fun pins s σ H xs us Q I r h => by
  rcases h with h | h
  · exact h1 pins s σ H xs us Q I r h
  · exact h2 pins s σ H xs us Q I r h
theorem cr_wk {f : Value} {r r' : List V → Hp → VK → Prop} (h : CallR X f r) (w : ∀ xs H Q, r' xs H Q → r xs H Q) : CallR X f r' := fun pins s σ H xs us Q I rr q => h pins s σ H xs us Q I rr (w xs H Q q)
theorem sl_or {r1 r2 : V → Option Int → Option Int → Hp → VK → Prop} (h1 : SlR X r1) (h2 : SlR X r2) : SlR X (fun x lo hi H Q => r1 x lo hi H Q ∨ r2 x lo hi H Q) := fun pins s σ H x v vl vu lo hi sl Q I rx hs pl pu h => by
  rcases h with h | h
  · exact h1 pins s σ H x v vl vu lo hi sl Q I rx hs pl pu h
  · exact h2 pins s σ H x v vl vu lo hi sl Q I rx hs pl pu h
theorem sl_wk {r r' : V → Option Int → Option Int → Hp → VK → Prop} (h : SlR X r) (w : ∀ x lo hi H Q, r' x lo hi H Q → r x lo hi H Q) : SlR X r' := fun pins s σ H x v vl vu lo hi sl Q I rx hs pl pu q => h pins s σ H x v vl vu lo hi sl Q I rx hs pl pu (w x lo hi H Q q)

/-! ### + - * and so on -/
def gAdd : D → D → Option D
  | .int i, .int j => some (.int (i + j))
  | .tuple x, .tuple y => if x.length + y.length ≤ 1000000 then some (.tuple (x ++ y)) else none
  | .list x, .list y => if x.length + y.length ≤ 1000000 then some (.list (x ++ y)) else none
  | _, _ => none
theorem le_l6 {n : Nat} (h : n ≤ 1000000) : n ≤ sizeLine := Nat.le_trans h (by decide)
theorem rep_tup_up {K : Fr8} {S H : Hp} {q : Addr} {o : Obj} {xs : List V} {ds : List D} (m : Same S H) (h : H q = none) (ho : o.dict = none) (r : RepA K S xs ds) : Rep K (upd S q (.frz o (.tup xs))) (.ref q) (.tuple ds) := .tup (.inl ⟨o, upd_same, ho⟩) (r.mono (same_new (m.free h)))
theorem gv_newT {K : Fr8} {S H : Hp} {xs : List V} {ds : List D} {Q : VK} (m : Same S H) (g : Gv K S H (.tuple ds) Q) (r : RepA K S xs ds) : NewT H xs Q := fun q o hq ho => g.2 q _ hq (rep_tup_up m hq ho r)
theorem rep_lst_up {K : Fr8} {S H : Hp} {q : Addr} {xs : List V} {ds : List D} (m : Same S H) (h : H q = none) (r : RepA K S xs ds) : Rep K (upd S q (.lst xs)) (.ref q) (.list ds) := .lst upd_same (r.mono (same_new (m.free h)))
theorem dop_add : OpR X (binaryOp .Add) (rD X.K gAdd) := opr_wk (opr_or op_add (opr_or op_catP op_cat)) fun x y H Q ⟨S, dx, dy, d, m, rx, ry, g, gv⟩ => by
  unfold gAdd at g
  split at g
  · cases g; cases rx; cases ry
    exact .inl ⟨_, _, rfl, rfl, gv.1 _ (.int _)⟩
  · split at g
    · rename_i hl
      cases g
      cases rx with
      | tup h1 r1 =>
        cases ry with
        | tup h2 r2 =>
          refine .inr (.inl ⟨_, _, _, _, rfl, rfl, sqT_mono m h1.sq, sqT_mono m h2.sq, by rw [r1.length, r2.length]; exact le_l6 hl, fun e => ?_, fun _ e => ?_, fun _ _ => gv_newT m gv (r1.append r2)⟩)
          · subst e; cases r1; exact gv.1 _ (.tup h2 r2)
          · subst e; cases r2; rw [List.append_nil] at gv; exact gv.1 _ (.tup h1 r1)
    · cases g
  · split at g
    · rename_i hl
      cases g
      cases rx with
      | lst h1 r1 =>
        cases ry with
        | lst h2 r2 =>
          exact .inr (.inr ⟨_, _, _, _, rfl, rfl, m _ _ h1, m _ _ h2, by rw [r1.length, r2.length]; exact le_l6 hl, fun q hq => gv.2 q _ hq (rep_lst_up m hq (r1.append r2))⟩)
    · cases g
  · cases g
/-- a list made by +, owned -/
def gCatO : D → D → Option (List D)
  | .list x, .list y => if x.length + y.length ≤ 1000000 then some (x ++ y) else none
  | _, _ => none
theorem dop_catO : OpR X (binaryOp .Add) (rDO X.K gCatO) := opr_wk op_cat fun x y H Q ⟨S, dx, dy, d, m, rx, ry, g, gv⟩ => by
  unfold gCatO at g
  split at g
  · split at g
    · rename_i hl
      cases g
      cases rx with
      | lst h1 r1 =>
        cases ry with
        | lst h2 r2 => exact ⟨_, _, _, _, rfl, rfl, m _ _ h1, m _ _ h2, by rw [r1.length, r2.length]; exact le_l6 hl, fun q hq => gv q _ hq (r1.append r2)⟩
    · cases g
  · cases g
def gSub : D → D → Option D
  | .int i, .int j => some (.int (i - j))
  | _, _ => none
theorem dop_sub : OpR X (binaryOp .Sub) (rD X.K gSub) := opr_wk op_sub fun x y H Q ⟨S, dx, dy, d, m, rx, ry, g, gv⟩ => by
  unfold gSub at g
  split at g
  · cases g; cases rx; cases ry; exact ⟨_, _, rfl, rfl, gv.1 _ (.int _)⟩
  · cases g
/-- t * 1 is t itself -/
def rRep1 (K : Fr8) : R2 := fun x y H Q => ∃ l xs, x = .ref l ∧ y = .int 1 ∧ SqT K H l xs ∧ Q (.ref l) H
theorem tup_mul1 (l : Addr) (items : Array Value) (n : Nat) (dd : Option Addr) (sl : Array (Option Value)) (u : Tok) :
    Meets (Builtin.«tuple.__mul__» ⟨[.ref l, .int 1 u], []⟩) (fun _ R s => s.heap.get? l = some { cls := .type "tuple", dict := dd, data := .seq items n, slots := sl } ∧ R (.ok (.ret (Value.ref l))) s) :=
  .of_wp fun prog w A R s h => by
    obtain ⟨hp, g, d, tk, os⟩ := s
    obtain ⟨hl, h⟩ := h
    have f1 := AutoSeq1.idx_int
    wp_walk using wpAny_loadPart' hl
    exact ⟨_, rfl, h⟩
theorem op_rep1 : OpR X (binaryOp .Mult) (rRep1 X.K) := by
  intro pins s σ H x y v u Q I rx ry h
  obtain ⟨l, xs, rfl, rfl, hT, q⟩ := h
  cases rx
  obtain ⟨t, rfl⟩ := ry
  obtain ⟨its, r, ⟨⟨cls, dd, data, sl⟩, ho, hc, n, hd⟩, hs⟩ := I.tuple hT
  simp only at hc hd
  subst hc hd
  refine wpAny_binaryOp_repeat_ref (T := "tuple") (U := "int") (by decide) ⟨_, ho, rfl⟩ (fun s' => typeIs_int s' 1 t) noFill_tuple_mul F.fills_int_mul F.slot_int_rmul repeat_tuple F.slot_int_index.lookup
    (call_meets F.slot_int_rmul (typeIs_int s 1 t) F.entry_int_rmul (F.args_int_rmul_2 _ _) (int_rmul_tuple 1 t l its.toArray n dd sl)
      ⟨ho, rfl, ⟨_, ho, rfl⟩, call_meets F.slot_tuple_mul ⟨_, ho, rfl⟩ F.entry_tuple_mul (F.args_tuple_mul_2 _ _) (tup_mul1 l its.toArray n dd sl t) ⟨ho, ?_⟩⟩)
  exact ⟨.ref l, H, I, rfl, q⟩
def gMul : D → D → Option D
  | .int i, .int j => if (-(2 ^ 64) < i ∧ i < 2 ^ 64) ∨ (-(2 ^ 64) < j ∧ j < 2 ^ 64) then some (.int (i * j)) else none
  | .tuple ds, .int k => if k = 1 then some (.tuple ds) else if ds ≠ [] ∧ 2 ≤ k ∧ k ≤ 1000 ∧ ds.length ≤ 1000 then some (.tuple (List.replicate k.toNat ds).flatten) else none
  | _, _ => none
theorem RepA.rep {K : Fr8} {S : Hp} {xs : List V} {ds : List D} (r : RepA K S xs ds) : ∀ n : Nat, RepA K S (List.replicate n xs).flatten (List.replicate n ds).flatten
  | 0 => .nil
  | n + 1 => by
    rw [List.replicate_succ, List.replicate_succ, List.flatten_cons, List.flatten_cons]
    exact r.append (RepA.rep r n)
theorem dop_mul : OpR X (binaryOp .Mult) (rD X.K gMul) := opr_wk (opr_or op_mul (opr_or op_rep1 op_repP)) fun x y H Q ⟨S, dx, dy, d, m, rx, ry, g, gv⟩ => by
  unfold gMul at g
  split at g
  · split at g
    · rename_i hl
      cases g; cases rx; cases ry
      exact .inl ⟨_, _, rfl, rfl, hl, gv.1 _ (.int _)⟩
    · cases g
  · split at g
    · rename_i hl
      cases g; cases ry
      subst hl
      cases rx with
      | tup h1 r1 => exact .inr (.inl ⟨_, _, rfl, rfl, sqT_mono m h1.sq, gv.1 _ (.tup h1 r1)⟩)
    · split at g
      · rename_i hl
        cases g; cases ry
        cases rx with
        | tup h1 r1 =>
          refine .inr (.inr ⟨_, _, _, rfl, rfl, sqT_mono m h1.sq, fun e => ?_, hl.2.1, hl.2.2.1, by rw [r1.length]; exact hl.2.2.2, gv_newT m gv (r1.rep _)⟩)
          subst e; cases r1; exact hl.1 rfl
      · cases g
  · cases g
def gMod : D → D → Option D
  | .int i, .int j => if j ≠ 0 then some (.int (i.fmod j)) else none
  | _, _ => none
theorem dop_mod : OpR X (binaryOp .Mod) (rD X.K gMod) := opr_wk op_modN fun x y H Q ⟨S, dx, dy, d, m, rx, ry, g, gv⟩ => by
  unfold gMod at g
  split at g
  · split at g
    · rename_i hl
      cases g; cases rx; cases ry; exact ⟨_, _, rfl, rfl, hl, gv.1 _ (.int _)⟩
    · cases g
  · cases g
def gDiv : D → D → Option D
  | .int i, .int j => if j ≠ 0 ∧ j.natAbs < 1073741824 then some (.int (i.fdiv j)) else none
  | _, _ => none
theorem dop_div : OpR X (binaryOp .FloorDiv) (rD X.K gDiv) := opr_wk op_fdivN fun x y H Q ⟨S, dx, dy, d, m, rx, ry, g, gv⟩ => by
  unfold gDiv at g
  split at g
  · split at g
    · rename_i hl
      cases g; cases rx; cases ry; exact ⟨_, _, rfl, rfl, hl, gv.1 _ (.int _)⟩
    · cases g
  · cases g
def gPow : D → D → Option D
  | .int i, .int j => if 0 ≤ j ∧ j ≤ 1000000 ∧ i.natAbs < 2 ^ 64 then some (.int (i ^ j.toNat)) else none
  | _, _ => none
theorem dop_pow : OpR X (binaryOp .Pow) (rD X.K gPow) := opr_wk op_pow fun x y H Q ⟨S, dx, dy, d, m, rx, ry, g, gv⟩ => by
  unfold gPow at g
  split at g
  · split at g
    · rename_i hl
      cases g; cases rx; cases ry; exact ⟨_, _, rfl, rfl, hl, gv.1 _ (.int _)⟩
    · cases g
  · cases g
def fNeg (f : FE) : FE := fun ρ => ob2 (f ρ) fun d ρ1 => match d with
  | .int i => some (.int (-i), ρ1)
  | _ => none
theorem de_neg {f : FE} (h : PE X a (dE X.K f)) : PE X (.UnaryOp .USub a pos) (dE X.K (fNeg f)) := pe_wk (pe_un un_neg h) fun σ H Q ⟨a0, B, S0, S, ρ, d, ρ', R, f, q⟩ => by
  obtain ⟨x, ρ1, e1, f⟩ := ob2_some f
  split at f
  · cases f
    refine ⟨a0, B, S0, S, ρ, _, _, R, e1, fun v H1 S1 m1 R1 r1 => ?_⟩
    cases r1
    exact ⟨_, rfl, q _ H1 S1 m1 R1 (.int _)⟩
  · cases f

/-! ### comparisons -/
def gLt : D → D → Option Bool
  | .int i, .int j => some (decide (i < j))
  | _, _ => none
def gLe : D → D → Option Bool
  | .int i, .int j => some (decide (i ≤ j))
  | _, _ => none
def gGt : D → D → Option Bool
  | .int i, .int j => some (decide (j < i))
  | _, _ => none
def gGe : D → D → Option Bool
  | .int i, .int j => some (decide (j ≤ i))
  | _, _ => none
theorem dcm_lt : OpR X (compareOp .Lt) (rDb X.K gLt) := opr_wk op_lt fun x y H Q ⟨S, dx, dy, d, m, rx, ry, g, q⟩ => by
  unfold gLt at g
  split at g
  · cases g; cases rx; cases ry; exact ⟨_, _, rfl, rfl, q⟩
  · cases g
theorem dcm_le : OpR X (compareOp .LtE) (rDb X.K gLe) := opr_wk op_le fun x y H Q ⟨S, dx, dy, d, m, rx, ry, g, q⟩ => by
  unfold gLe at g
  split at g
  · cases g; cases rx; cases ry; exact ⟨_, _, rfl, rfl, q⟩
  · cases g
theorem dcm_gt : OpR X (compareOp .Gt) (rDb X.K gGt) := opr_wk op_gt fun x y H Q ⟨S, dx, dy, d, m, rx, ry, g, q⟩ => by
  unfold gGt at g
  split at g
  · cases g; cases rx; cases ry; exact ⟨_, _, rfl, rfl, q⟩
  · cases g
theorem dcm_ge : OpR X (compareOp .GtE) (rDb X.K gGe) := opr_wk op_ge fun x y H Q ⟨S, dx, dy, d, m, rx, ry, g, q⟩ => by
  unfold gGe at g
  split at g
  · cases g; cases rx; cases ry; exact ⟨_, _, rfl, rfl, q⟩
  · cases g
mutual
theorem Rep.reads {pins : List (Addr × Obj)} {σ : SL} {H S : Hp} {s : Shared} (I : Inv X pins σ H s) (m : Same S H) : ∀ (d : D) (v : V) (u : Value), Rep X.K S v d → RelV v u → ∃ as, Reads s.heap u d as
  | .none, _, _, h, r => by cases h; cases r; exact ⟨_, Reads.none⟩
  | .bool b, _, _, h, r => by cases h; cases r; exact ⟨_, Reads.bool b⟩
  | .int i, _, _, h, r => by cases h; obtain ⟨t, rfl⟩ := r; exact ⟨_, Reads.int i t⟩
  | .str x, _, _, h, r => by cases h; obtain ⟨t, rfl⟩ := r; exact ⟨_, Reads.str x t⟩
  | .list ds, _, _, h, r => by
    cases h with
    | lst hs ha =>
      cases r
      obtain ⟨its, rv, ⟨o, n, ho, hc, _, hd⟩, _⟩ := I.list (.inl (.inl (m _ _ hs)))
      obtain ⟨as, hr⟩ := RepA.reads I m ds _ its ha rv
      exact ⟨_, Reads.list ho hc hd hr⟩
  | .tuple ds, _, _, h, r => by
    cases h with
    | tup hs ha =>
      cases r
      obtain ⟨its, rv, ⟨o, ho, hc, n, hd⟩, _⟩ := I.tuple (sqT_mono m hs.sq)
      obtain ⟨as, hr⟩ := RepA.reads I m ds _ its ha rv
      exact ⟨_, Reads.tuple ho hc hd hr⟩
  | .dict kvs, _, _, h, r => by
    cases h with
    | dic hs =>
      cases r
      obtain ⟨_, _, vs, kv, o, es, ep, ho, hx, hd, _, hp, _⟩ := I.hok _ _ (m _ _ hs)
      cases kv
      have e0 : es.toList = [] := by
        have := hp.length
        exact List.eq_nil_of_length_eq_zero this
      refine ⟨_, Reads.dict (kvs := []) ho hx.1 hd (as := []) (bs := []) ?_ ?_⟩
      · rw [e0]; exact .nil
      · rw [e0]; exact .nil
theorem RepA.reads {pins : List (Addr × Obj)} {σ : SL} {H S : Hp} {s : Shared} (I : Inv X pins σ H s) (m : Same S H) : ∀ (ds : List D) (vs : List V) (us : List Value), RepA X.K S vs ds → Vals vs us → ∃ as, ReadsAll s.heap us ds as
  | [], _, _, h, r => by cases h; cases r; exact ⟨_, ReadsAll.nil⟩
  | d :: ds, _, _, h, r => by
    cases h with
    | cons h1 h2 =>
      cases r with
      | cons r1 r2 =>
        obtain ⟨as, q1⟩ := Rep.reads I m d _ _ h1 r1
        obtain ⟨bs, q2⟩ := RepA.reads I m ds _ _ h2 r2
        exact ⟨_, ReadsAll.cons q1 q2⟩
end
def okEq (d : D) : Bool := d.canLay0 && decide (d.depth ≤ 64)
def gEq (d e : D) : Option Bool := if okEq d = true ∧ okEq e = true then some (PyData.eqv d e) else none
def gNe (d e : D) : Option Bool := if okEq d = true ∧ okEq e = true then some (!PyData.eqv d e) else none
theorem dcm_eq (hu : X.A.units + 64 < cLine) : OpR X (compareOp .Eq) (rDb X.K gEq) := fun pins s σ H x y v u Q I rx ry ⟨S, dx, dy, b, m, h1, h2, g, q⟩ => by
  unfold gEq at g
  split at g
  · rename_i hk
    cases g
    obtain ⟨as, r1⟩ := Rep.reads I m dx x v h1 rx
    obtain ⟨bs, r2⟩ := Rep.reads I m dy y u h2 ry
    exact SeqAt.compareEq_shaped r1 r2 hk.1 hk.2 hu ⟨.bl _, H, I, rfl, q⟩
  · cases g
theorem dcm_ne (hu : X.A.units + 64 < cLine) : OpR X (compareOp .NotEq) (rDb X.K gNe) := fun pins s σ H x y v u Q I rx ry ⟨S, dx, dy, b, m, h1, h2, g, q⟩ => by
  unfold gNe at g
  split at g
  · rename_i hk
    cases g
    obtain ⟨as, r1⟩ := Rep.reads I m dx x v h1 rx
    obtain ⟨bs, r2⟩ := Rep.reads I m dy y u h2 ry
    exact SeqAt.compareNe_shaped r1 r2 hk.1 hk.2 hu ⟨.bl _, H, I, rfl, q⟩
  · cases g
def isN : D → Bool
  | .none => true
  | _ => false
def gIsN (d e : D) : Option Bool := match e with
  | .none => some (isN d)
  | _ => none
def gNotN (d e : D) : Option Bool := match e with
  | .none => some (!isN d)
  | _ => none
theorem rep_isN {K : Fr8} {S : Hp} {v : V} {d : D} (r : Rep K S v d) : decide (v = .non) = isN d := by
  cases r <;> simp [isN]
theorem dcm_isN : OpR X (compareOp .Is) (rDb X.K gIsN) := opr_wk op_isN fun x y H Q ⟨S, dx, dy, d, m, rx, ry, g, q⟩ => by
  unfold gIsN at g
  split at g
  · cases g; cases ry
    refine ⟨rfl, ?_⟩
    rw [rep_isN rx]; exact q
  · cases g
theorem dcm_notN : OpR X (compareOp .IsNot) (rDb X.K gNotN) := opr_wk op_notN fun x y H Q ⟨S, dx, dy, d, m, rx, ry, g, q⟩ => by
  unfold gNotN at g
  split at g
  · cases g; cases ry
    refine ⟨rfl, ?_⟩
    rw [rep_isN rx]; exact q
  · cases g

/-! ### subscripts and slices -/
def gIx : D → D → Option D
  | .list ds, .int i => atI ds i
  | .tuple ds, .int i => atI ds i
  | _, _ => none
theorem RepA.atI {K : Fr8} {S : Hp} {vs : List V} {ds : List D} (r : RepA K S vs ds) {i : Int} {d : D} (h : L2.atI ds i = some d) : ∃ v, L2.atI vs i = some v ∧ Rep K S v d := by
  unfold L2.atI at h ⊢
  rw [r.length]
  cases e : ixN ds.length i with
  | none => rw [e] at h; cases h
  | some j =>
    rw [e] at h
    exact r.get (i := j) h
theorem dix : IxR X (rD X.K gIx) := ixr_wk (ixr_or ix_list ix_tup) fun x y H Q ⟨S, dx, dy, d, m, rx, ry, g, gv⟩ => by
  unfold gIx at g
  split at g
  · cases ry
    cases rx with
    | lst h1 r1 =>
      obtain ⟨v, e, r⟩ := r1.atI g
      exact .inl ⟨_, _, _, v, rfl, rfl, .inl (.inl (m _ _ h1)), e, gv.1 v r⟩
  · cases ry
    cases rx with
    | tup h1 r1 =>
      obtain ⟨v, e, r⟩ := r1.atI g
      exact .inr ⟨_, _, _, v, rfl, rfl, sqT_mono m h1.sq, e, gv.1 v r⟩
  · cases g
/-- an owned list at a place -/
def fIxO (k : Nat) (fi : FE) : FE := fun ρ => match ρ[k]? with
  | some (.ow _) => ob2 (fi ρ) fun y ρ1 => (match ρ1[k]? with
    | some (.ow (.lst ds)) => (match y with
      | .int i => wth (atI ds i) ρ1
      | _ => none)
    | _ => none)
  | _ => none
theorem de_ixO {k : Nat} {fi : FE} (ha : PE X a (tVar k)) (hb : PE X b (dE X.K fi)) (hp : PlainIx b) : PE X (.Subscript a b pos) (dE X.K (fIxO k fi)) := pe_wk (pe_ix ix_list ha hb hp) fun σ H Q ⟨a0, B, S0, S, ρ, d, ρ', R, f, q⟩ => by
  unfold fIxO at f
  split at f
  case h_2 => cases f
  rename_i o hk0
  obtain ⟨aa, _, hu, _⟩ := R.change hk0
  obtain ⟨y, ρ1, e1, f⟩ := ob2_some f
  split at f
  · rename_i ds hk
    split at f
    · rename_i i
      obtain ⟨f3, rfl⟩ := wth_some f
      refine ⟨_, hu, a0, B, S0, S, ρ, _, _, R, e1, fun v H1 S1 m1 R1 r1 => ?_⟩
      cases r1
      obtain ⟨bb, ff, e2, ob, _⟩ := R1.change hk
      obtain ⟨_, xs, ex, ra⟩ := ob
      rw [hu] at e2
      cases e2
      obtain ⟨w, e3, r⟩ := ra.atI f3
      exact ⟨_, _, _, w, rfl, rfl, .inl (.inl ex), e3, q w H1 S1 m1 R1 r⟩
    · cases f
  · cases f
/-! slices -/
def cutD (xs : List D) (lo hi : Option Int) : List D := (xs.drop (HT.sIx xs.length 0 lo)).take (HT.sIx xs.length xs.length hi - HT.sIx xs.length 0 lo)
abbrev FP := En → Option (Option Int × En)
def dP (K : Fr8) (f : FP) : TO := fun σ H Q => ∃ a0 B S0 S ρ o ρ', Rl K a0 B S0 σ H S ρ ∧ f ρ = some (o, ρ') ∧ ∀ H' S', Same S S' → Rl K a0 B S0 σ H' S' ρ' → Q o H'
theorem po_wk {oe : Option Expr} {t t' : TO} (h : PO X oe t) (w : ∀ σ H Q, t' σ H Q → t σ H Q) : PO X oe t' := ⟨fun pins s σ H Q I q => h.run pins s σ H Q I (w σ H Q q)⟩
def fNoP : FP := fun ρ => some (none, ρ)
def fPart (f : FE) : FP := fun ρ => ob2 (f ρ) fun d ρ1 => match d with
  | .int i => some (some i, ρ1)
  | _ => none
theorem dp_none : PO X none (dP X.K fNoP) := po_wk po_none fun σ H Q ⟨a0, B, S0, S, ρ, d, ρ', R, f, q⟩ => by
  cases f; exact q H S (Same.refl _) R
theorem dp_some {f : FE} (h : PE X e (dE X.K f)) : PO X (some e) (dP X.K (fPart f)) := po_wk (po_some h) fun σ H Q ⟨a0, B, S0, S, ρ, d, ρ', R, f, q⟩ => by
  obtain ⟨x, ρ1, e1, f⟩ := ob2_some f
  split at f
  · cases f
    refine ⟨a0, B, S0, S, ρ, _, _, R, e1, fun v H1 S1 m1 R1 r1 => ?_⟩
    cases r1
    exact ⟨_, rfl, q H1 S1 m1 R1⟩
  · cases f
def gSl (d : D) (lo hi : Option Int) : Option D := match d with
  | .tuple ds => some (.tuple (cutD ds lo hi))
  | .list ds => some (.list (cutD ds lo hi))
  | _ => none
theorem RepA.cut {K : Fr8} {S : Hp} {vs : List V} {ds : List D} (r : RepA K S vs ds) (lo hi : Option Int) : RepA K S (cutV vs lo hi) (cutD ds lo hi) := by
  unfold cutV cutD
  rw [r.length]
  exact (r.drop _).take _
theorem cutD_all {ds : List D} {lo hi : Option Int} (h : HT.sIx ds.length 0 lo = 0 ∧ HT.sIx ds.length ds.length hi = ds.length) : cutD ds lo hi = ds := by
  unfold cutD
  rw [h.1, h.2]
  simp
theorem dsl : SlR X (rDs X.K gSl) := sl_wk (sl_or sl_list sl_tupP) fun x lo hi H Q ⟨S, dx, d, m, rx, g, gv⟩ => by
  unfold gSl at g
  split at g
  · cases g
    cases rx with
    | tup h1 r1 =>
      refine .inr ⟨_, _, rfl, sqT_mono m h1.sq, fun hw => ?_, fun _ => gv_newT m gv (r1.cut lo hi)⟩
      rw [r1.length] at hw
      rw [cutD_all hw] at gv
      exact gv.1 _ (.tup h1 r1)
  · cases g
    cases rx with
    | lst h1 r1 => exact .inl ⟨_, _, rfl, .inl (.inl (m _ _ h1)), fun q hq => gv.2 q _ hq (rep_lst_up m hq (r1.cut lo hi))⟩
  · cases g
def fSl (g : D → Option Int → Option Int → Option D) (fe : FE) (fl fh : FP) : FE := fun ρ => ob2 (fe ρ) fun d ρ1 => ob2 (fl ρ1) fun lo ρ2 => ob2 (fh ρ2) fun hi ρ3 => wth (g d lo hi) ρ3
theorem de_sl {lo hi : Option Expr} {g : D → Option Int → Option Int → Option D} {fe : FE} {fl fh : FP} {p2 : Pos} (hr : SlR X (rDs X.K g)) (he : PE X e (dE X.K fe)) (hl : PO X lo (dP X.K fl)) (hh : PO X hi (dP X.K fh)) : PE X (.Subscript e (.Slice lo hi none p2) pos) (dE X.K (fSl g fe fl fh)) :=
  pe_wk (pe_slice hr he hl hh) fun σ H Q ⟨a0, B, S0, S, ρ, d, ρ', R, f, q⟩ => by
    obtain ⟨x, ρ1, e1, f⟩ := ob2_some f
    obtain ⟨l, ρ2, e2, f⟩ := ob2_some f
    obtain ⟨h, ρ3, e3, f⟩ := ob2_some f
    obtain ⟨e4, rfl⟩ := wth_some f
    refine ⟨a0, B, S0, S, ρ, x, ρ1, R, e1, fun v H1 S1 m1 R1 r1 => ?_⟩
    refine ⟨a0, B, S0, S1, ρ1, l, ρ2, R1, e2, fun H2 S2 m2 R2 => ?_⟩
    refine ⟨a0, B, S0, S2, ρ2, h, _, R2, e3, fun H3 S3 m3 R3 => ?_⟩
    exact ⟨S3, x, d, R3.sh, r1.mono (m2.trans m3), e4, Gv.go R3 (m1.trans (m2.trans m3)) q⟩
end
end DL

set_option Elab.async false
set_option linter.all false
set_option maxRecDepth 100000
set_option maxHeartbeats 4000000
/-! DL, part e: built-ins, methods, dicts with int keys. -/
namespace DL
open PySem PySem.Spec PyProof.Rows L2
def intsOf : List D → Option (List Int)
  | [] => some []
  | .int i :: ds => (match intsOf ds with
    | some ns => some (i :: ns)
    | none => none)
  | _ :: _ => none
theorem intsOf_map : ∀ ns : List Int, intsOf (ns.map PyData.int) = some ns
  | [] => rfl
  | n :: ns => by rw [List.map_cons, intsOf, intsOf_map ns]
theorem intsOf_some : ∀ {ds : List D} {ns : List Int}, intsOf ds = some ns → ds = ns.map PyData.int
  | [], ns, h => by cases h; rfl
  | d :: ds, ns, h => by
    unfold intsOf at h
    split at h
    · rename_i e; cases e
    · rename_i i r e
      cases e
      split at h
      · rename_i ms e2
        cases h
        rw [intsOf_some e2]
        rfl
      · cases h
    · cases h
section
variable {X : Cx} {e a b : Expr} {es : List Expr} {pos p : Pos}

def gLen : List D → Option D
  | [.list ds] => some (.int ds.length)
  | [.tuple ds] => some (.int ds.length)
  | _ => none
theorem dcl_len : CallR X (.builtin "len") (rDc X.K gLen) := cr_wk call_len_seq fun vs H Q ⟨S, ds, d, m, r, g, gv⟩ => by
  unfold gLen at g
  split at g
  · cases g
    cases r with
    | cons r1 r2 =>
      cases r2
      cases r1 with
      | lst h1 r1 =>
        rw [← r1.length] at gv
        exact ⟨_, _, rfl, .inl (.inl (.inl (m _ _ h1))), gv.1 _ (.int _)⟩
  · cases g
    cases r with
    | cons r1 r2 =>
      cases r2
      cases r1 with
      | tup h1 r1 =>
        rw [← r1.length] at gv
        exact ⟨_, _, rfl, .inr (sqT_mono m h1.sq), gv.1 _ (.int _)⟩
  · cases g
/-- built-ins over one owned list that stays as it is -/
def rLs (K : Fr8) (g : List D → Option D) : List V → Hp → VK → Prop := fun vs H Q => ∃ S a xs ds d, vs = [.ref a] ∧ Same S H ∧ H a = some (.lst xs) ∧ RepA K S xs ds ∧ g ds = some d ∧ Gv K S H d Q
def fOwnC (k : Nat) (g : List D → Option D) : FE := fun ρ => match ρ[k]? with
  | some (.ow (.lst ds)) => wth (g ds) ρ
  | _ => none
theorem towc_go {K : Fr8} {k : Nat} {g : List D → Option D} {σ : SL} {H : Hp} {Q : VK} (h : dE K (fOwnC k g) σ H Q) : tCB (rLs K g) (tCons (tVar k) tNil) σ H Q := by
  obtain ⟨a0, B, S0, S, ρ, d, ρ', R, f, q⟩ := h
  unfold fOwnC at f
  split at f
  · rename_i ds hk
    obtain ⟨e3, rfl⟩ := wth_some f
    obtain ⟨aa, ff, e2, ob, _⟩ := R.change hk
    obtain ⟨_, xs, ex, ra⟩ := ob
    exact ⟨_, e2, S, aa, xs, ds, d, rfl, R.sh, ex, ra, e3, Gv.go R (Same.refl _) q⟩
  · cases f
theorem de_ownB {x : Str} {id : String} {k : Nat} {g : List D → Option D} (hc : CallR X (.builtin id) (rLs X.K g)) (hg : Gl X x) (hm : X.mg x = none) (hv : bootBuiltins x = some (.builtin id)) (ha : PE X e (tVar k)) (hn : x ≠ "__name__" := by decide) (hdb : (x == ("__debug__" : Str)) = false := by decide)
    (he : starEach [e] X.env = (false, eval e X.env) :: starEach [] X.env := by rfl) (hpl : (backTo pos (starEach [] X.env)).any (·.1) = false := by rfl) : PE X (.Call (.Name x p) [e] [] pos) (dE X.K (fOwnC k g)) :=
  pe_wk (pe_callB hc hg hm hv (pa_cons ha pa_nil he) hn hdb he hpl) fun _ _ _ h => towc_go h
theorem de_ownTy {x : Str} {T : String} {k : Nat} {g : List D → Option D} (hc : CallR X (.type T) (rLs X.K g)) (hg : Gl X x) (hm : X.mg x = none) (hv : bootBuiltins x = some (.type T)) (ha : PE X e (tVar k)) (hn : x ≠ "__name__" := by decide) (hdb : (x == ("__debug__" : Str)) = false := by decide)
    (he : starEach [e] X.env = (false, eval e X.env) :: starEach [] X.env := by rfl) (hpl : (backTo pos (starEach [] X.env)).any (·.1) = false := by rfl) : PE X (.Call (.Name x p) [e] [] pos) (dE X.K (fOwnC k g)) :=
  pe_wk (pe_callTy hc hg hm hv (pa_cons ha pa_nil he) hn hdb he hpl) fun _ _ _ h => towc_go h
def gLenL (ds : List D) : Option D := some (.int ds.length)
theorem dol_len : CallR X (.builtin "len") (rLs X.K gLenL) := cr_wk call_len_seq fun vs H Q ⟨S, a, xs, ds, d, e, m, h, r, g, gv⟩ => by
  cases g; subst e
  rw [← r.length] at gv
  exact ⟨_, _, rfl, .inl (.inl (.inl h)), gv.1 _ (.int _)⟩
def gTupL (ds : List D) : Option D := some (.tuple ds)
theorem dol_tup : CallR X (.type "tuple") (rLs X.K gTupL) := cr_wk call_tupleP fun vs H Q ⟨S, a, xs, ds, d, e, m, h, r, g, gv⟩ => by
  cases g; subst e
  exact ⟨_, _, rfl, .inl ⟨.inl (.inl h), gv_newT m gv r⟩⟩
def gTup : List D → Option D
  | [.list ds] => some (.tuple ds)
  | [.tuple ds] => some (.tuple ds)
  | _ => none
theorem dcl_tup : CallR X (.type "tuple") (rDc X.K gTup) := cr_wk call_tupleP fun vs H Q ⟨S, ds, d, m, r, g, gv⟩ => by
  unfold gTup at g
  split at g
  · cases g
    cases r with
    | cons r1 r2 =>
      cases r2
      cases r1 with
      | lst h1 r1 => exact ⟨_, _, rfl, .inl ⟨.inl (.inl (m _ _ h1)), gv_newT m gv r1⟩⟩
  · cases g
    cases r with
    | cons r1 r2 =>
      cases r2
      cases r1 with
      | tup h1 r1 => exact ⟨_, _, rfl, .inr ⟨sqT_mono m h1.sq, gv.1 _ (.tup h1 r1)⟩⟩
  · cases g
def gListO : List D → Option (List D)
  | [.list ds] => some ds
  | [.tuple ds] => some ds
  | _ => none
theorem dcl_list : CallR X (.type "list") (rDcO X.K gListO) := cr_wk call_list_of fun vs H Q ⟨S, ds, d, m, r, g, gv⟩ => by
  unfold gListO at g
  split at g
  · cases g
    cases r with
    | cons r1 r2 =>
      cases r2
      cases r1 with
      | lst h1 r1 => exact ⟨_, _, rfl, .inl (.inl (.inl (m _ _ h1))), fun q hq => gv q _ hq r1⟩
  · cases g
    cases r with
    | cons r1 r2 =>
      cases r2
      cases r1 with
      | tup h1 r1 => exact ⟨_, _, rfl, .inr (sqT_mono m h1.sq), fun q hq => gv q _ hq r1⟩
  · cases g

/-! min and max of ints -/
def gMin : List D → Option D
  | [.int i, .int j] => some (.int (if j < i then j else i))
  | [.int i, .int j, .int k] => some (.int (if k < (if j < i then j else i) then k else (if j < i then j else i)))
  | [.list ds] => (match intsOf ds with
    | some (n :: ns) => some (.int (ns.foldl min n))
    | _ => none)
  | [.tuple ds] => (match intsOf ds with
    | some (n :: ns) => some (.int (ns.foldl min n))
    | _ => none)
  | _ => none
def gMax : List D → Option D
  | [.int i, .int j] => some (.int (if j > i then j else i))
  | [.list ds] => (match intsOf ds with
    | some (n :: ns) => some (.int (ns.foldl max n))
    | _ => none)
  | [.tuple ds] => (match intsOf ds with
    | some (n :: ns) => some (.int (ns.foldl max n))
    | _ => none)
  | _ => none
theorem alikeAll_ints (ns : List Int) : PySem.W.AlikeAll (ns.map PyData.int) := by
  refine ⟨fun x hx y hy => ?_, fun x hx => ?_⟩
  · obtain ⟨i, _, rfl⟩ := List.mem_map.mp hx
    obtain ⟨j, _, rfl⟩ := List.mem_map.mp hy
    unfold PySem.W.alike
    rfl
  · obtain ⟨i, _, rfl⟩ := List.mem_map.mp hx
    intro z; cases z
theorem depth_ints : ∀ ns : List Int, PyData.depthAll (ns.map PyData.int) = 0
  | [] => rfl
  | n :: ns => by
    rw [List.map_cons, PyData.depthAll, depth_ints ns]
    rfl
theorem reads_int {h : Heap} {v : Value} {i : Int} {as : List Addr} (r : Reads h v (.int i) as) : ∃ t, v = .int i t := by
  cases r; exact ⟨_, rfl⟩
theorem rep_i {K : Fr8} {S : Hp} {v : V} {i : Int} (r : Rep K S v (.int i)) : v = .int i := by cases r; rfl
theorem dcl_min (hc : X.calm = true) (hu : X.A.units + 64 < cLine) : CallR X (.builtin "min") (rDc X.K gMin) := fun pins s σ H vs us Q I rv ⟨S, ds, d, m, r, g, gv⟩ => by
  unfold gMin at g
  split at g
  · cases g
    cases r with
    | cons r1 r2 =>
      cases r2 with
      | cons r2 r3 =>
        cases r3; cases r1; cases r2
        exact call_min2 hc pins s σ H _ us Q I rv ⟨_, _, rfl, gv.1 _ (.int _)⟩
  · cases g
    cases r with
    | cons r1 r2 =>
      cases r2 with
      | cons r2 r3 =>
        cases r3 with
        | cons r3 r4 =>
          cases r4; cases r1; cases r2; cases r3
          refine call_min3Nu hc pins s σ H _ us Q I rv ⟨_, _, _, _, rfl, ?_, gv.1 _ (.int _)⟩
          rename_i i j k
          unfold nuMin3
          have e1 : ∀ x y : Int, nuMin2 (.int x) (.int y) = some (.int (if y < x then y else x)) := fun x y => by
            show (some (decide (y < x))).map _ = _
            by_cases h : y < x
            · rw [decide_eq_true h, if_pos h]; rfl
            · rw [decide_eq_false h, if_neg h]; rfl
          rw [e1]
          rw [Option.bind_some, e1]
  · split at g
    · rename_i n ns e
      cases g
      have e := intsOf_some e
      subst e
      cases r with
      | cons r1 r2 =>
        cases r2
        obtain ⟨u, rfl, ru⟩ := vals1 rv
        cases r1 with
        | lst h1 r1 =>
          cases ru
          obtain ⟨its, rr, pl, hz⟩ := I.list (.inl (.inl (m _ _ h1)))
          obtain ⟨as, hr⟩ := RepA.reads I m _ _ _ r1 rr
          refine PySem.W.min_list_data (I.ok.hd hc) pl.isList (x := .int n) (xs := ns.map PyData.int) hr (alikeAll_ints (n :: ns)) (by rw [show (PyData.int n :: ns.map PyData.int) = (n :: ns).map PyData.int from rfl, depth_ints]; omega) fun i v h' tk bs e1 e2 hk => ?_
          rw [PySem.W.minD_ints] at e2
          obtain ⟨t, rfl⟩ := reads_int e2
          exact ⟨.int _, H, I.kept hk, ⟨t, rfl⟩, gv.1 _ (.int _)⟩
    · cases g
  · split at g
    · rename_i n ns e
      cases g
      have e := intsOf_some e
      subst e
      cases r with
      | cons r1 r2 =>
        cases r2
        obtain ⟨u, rfl, ru⟩ := vals1 rv
        cases r1 with
        | tup h1 r1 =>
          cases ru
          obtain ⟨its, rr, pl, hz⟩ := I.tuple (sqT_mono m h1.sq)
          obtain ⟨as, hr⟩ := RepA.reads I m _ _ _ r1 rr
          refine PySem.W.min_tuple_data (I.ok.hd hc) pl (x := .int n) (xs := ns.map PyData.int) hr (alikeAll_ints (n :: ns)) (by rw [show (PyData.int n :: ns.map PyData.int) = (n :: ns).map PyData.int from rfl, depth_ints]; omega) fun i v h' tk bs e1 e2 hk => ?_
          rw [PySem.W.minD_ints] at e2
          obtain ⟨t, rfl⟩ := reads_int e2
          exact ⟨.int _, H, I.kept hk, ⟨t, rfl⟩, gv.1 _ (.int _)⟩
    · cases g
  · cases g
theorem dcl_max (hc : X.calm = true) (hu : X.A.units + 64 < cLine) : CallR X (.builtin "max") (rDc X.K gMax) := fun pins s σ H vs us Q I rv ⟨S, ds, d, m, r, g, gv⟩ => by
  unfold gMax at g
  split at g
  · cases g
    cases r with
    | cons r1 r2 =>
      cases r2 with
      | cons r2 r3 =>
        cases r3; cases r1; cases r2
        exact call_max2 hc pins s σ H _ us Q I rv ⟨_, _, rfl, gv.1 _ (.int _)⟩
  · split at g
    · rename_i n ns e
      cases g
      have e := intsOf_some e
      subst e
      cases r with
      | cons r1 r2 =>
        cases r2
        obtain ⟨u, rfl, ru⟩ := vals1 rv
        cases r1 with
        | lst h1 r1 =>
          cases ru
          obtain ⟨its, rr, pl, hz⟩ := I.list (.inl (.inl (m _ _ h1)))
          obtain ⟨as, hr⟩ := RepA.reads I m _ _ _ r1 rr
          refine PySem.W.max_list_data (I.ok.hd hc) pl.isList (x := .int n) (xs := ns.map PyData.int) hr (alikeAll_ints (n :: ns)) (by rw [show (PyData.int n :: ns.map PyData.int) = (n :: ns).map PyData.int from rfl, depth_ints]; omega) fun i v h' tk bs e1 e2 hk => ?_
          rw [PySem.W.maxD_ints] at e2
          obtain ⟨t, rfl⟩ := reads_int e2
          exact ⟨.int _, H, I.kept hk, ⟨t, rfl⟩, gv.1 _ (.int _)⟩
    · cases g
  · split at g
    · rename_i n ns e
      cases g
      have e := intsOf_some e
      subst e
      cases r with
      | cons r1 r2 =>
        cases r2
        obtain ⟨u, rfl, ru⟩ := vals1 rv
        cases r1 with
        | tup h1 r1 =>
          cases ru
          obtain ⟨its, rr, pl, hz⟩ := I.tuple (sqT_mono m h1.sq)
          obtain ⟨as, hr⟩ := RepA.reads I m _ _ _ r1 rr
          refine PySem.W.max_tuple_data (I.ok.hd hc) pl (x := .int n) (xs := ns.map PyData.int) hr (alikeAll_ints (n :: ns)) (by rw [show (PyData.int n :: ns.map PyData.int) = (n :: ns).map PyData.int from rfl, depth_ints]; omega) fun i v h' tk bs e1 e2 hk => ?_
          rw [PySem.W.maxD_ints] at e2
          obtain ⟨t, rfl⟩ := reads_int e2
          exact ⟨.int _, H, I.kept hk, ⟨t, rfl⟩, gv.1 _ (.int _)⟩
    · cases g
  · cases g
def gAbs : List D → Option D
  | [.int i] => some (.int (if i < 0 then -i else i))
  | _ => none
theorem dcl_abs : CallR X (.builtin "abs") (rDc X.K gAbs) := cr_wk call_abs fun vs H Q ⟨S, ds, d, m, r, g, gv⟩ => by
  unfold gAbs at g
  split at g
  · cases g
    cases r with
    | cons r1 r2 => cases r2; cases r1; exact ⟨_, rfl, gv.1 _ (.int _)⟩
  · cases g
def gInt : List D → Option D
  | [.int i] => some (.int i)
  | [.bool b] => some (.int (if b then 1 else 0))
  | _ => none
theorem dcl_int : CallR X (.type "int") (rDc X.K gInt) := cr_wk call_int1 fun vs H Q ⟨S, ds, d, m, r, g, gv⟩ => by
  unfold gInt at g
  split at g
  · cases g
    cases r with
    | cons r1 r2 => cases r2; cases r1; exact .inl ⟨_, rfl, gv.1 _ (.int _)⟩
  · cases g
    cases r with
    | cons r1 r2 => cases r2; cases r1; exact .inr ⟨_, rfl, gv.1 _ (.int _)⟩
  · cases g

/-! t[::-1] -/
theorem sliceApplied_back {prog : Program} {w : World} {A : Around} {E : Value → Shared → Prop} {s : Shared} {sl : Addr} {vs : Value} {n : Nat} {Q : Int × Int × Nat → Shared → Prop} (hs : s.heap.IsSliceOf sl .none .none vs) (ps : IsPart vs (some (-1)))
    (h : Q ((n : Int) - 1, -1, n) s) : wpAny (model prog w) A (Builtin.Slice.sliceApplied (.ref sl) (pure (n : Int))) Q E s := by
  obtain ⟨os, hos, hcs, hds⟩ := id hs
  unfold Builtin.Slice.sliceApplied Builtin.Slice.sliceFields
  refine wpAny_bind (wpAny_bind (wpAny_field hos hds (x := .none) rfl (wpAny_bind (wpAny_field hos hds (x := .none) rfl (wpAny_bind (wpAny_field hos hds (x := vs) rfl (wpAny_pure ?_)))))))
  refine wpAny_bind (HT.slicePart_ ps ?_)
  show wpAny _ _ (if ((-1 : Int) == 0) = true then _ else _) _ _ s
  rw [if_neg (by decide)]
  refine wpAny_bind (slicePart_none (wpAny_bind (slicePart_none (wpAny_bind (wpAny_pure ?_)))))
  show wpAny _ _ (match Builtin.Slice.sliceAdjust none none (-1) (n : Int) with | (lo, hi) => pure (lo, (-1 : Int), Builtin.Slice.slicePlaces lo hi (-1))) _ _ s
  have e1 : Builtin.Slice.sliceAdjust none none (-1) (n : Int) = ((n : Int) - 1, -1) := by
    unfold Builtin.Slice.sliceAdjust
    simp
  rw [e1]
  have e2 : Builtin.Slice.slicePlaces ((n : Int) - 1) (-1) (-1) = n := by
    unfold Builtin.Slice.slicePlaces
    have h1 : ¬ ((-1 : Int) > 0) := by omega
    simp only [h1, if_false]
    rw [show (- -1 : Int) = 1 by decide, Int.ediv_one]
    split <;> omega
  show wpAny _ _ (pure ((n : Int) - 1, (-1 : Int), Builtin.Slice.slicePlaces ((n : Int) - 1) (-1) (-1))) _ _ s
  rw [e2]
  exact wpAny_pure h
theorem pick_back (xs : Array Value) : ((List.range xs.size).filterMap fun (k : Nat) => xs[(((xs.size : Int) - 1) + (k : Int) * (-1)).toNat]?).toArray = xs.toList.reverse.toArray := by
  congr 1
  have e : (List.range xs.size).filterMap (fun (k : Nat) => xs[(((xs.size : Int) - 1) + (k : Int) * (-1)).toNat]?) = (List.range xs.size).filterMap (fun k => xs[xs.size - 1 - k]?) := by
    congr 1
    funext k
    have : (((xs.size : Int) - 1) + (k : Int) * (-1)).toNat = xs.size - 1 - k := by omega
    rw [this]
  rw [e]
  have e2 : (List.range xs.size).filterMap (fun k => xs[xs.size - 1 - k]?) = ((List.range xs.size).map fun k => xs.size - 1 - k).filterMap (xs[·]?) := by
    rw [List.filterMap_map]; rfl
  rw [e2, PySem.W.krv_range, List.filterMap_reverse, PySem.W.krv_all]
theorem getItem_tuple_back {prog : Program} {w : World} {A : Around} {E : Value → Shared → Prop} {s : Shared} {t sl : Addr} {items : Array Value} {vs : Value} {Q : Value → Shared → Prop} (ht : IsTup s.heap t items) (hs : s.heap.IsSliceOf sl .none .none vs) (ps : IsPart vs (some (-1)))
    (h : Q (.ref s.heap.objs.size) { s with heap := s.heap.push { cls := .type "tuple", data := .seq items.toList.reverse.toArray } })
    (hsz : items.size ≤ sizeLine) : wpAny (model prog w) A (getItem (.ref t) (.ref sl)) Q E s := by
  have htake : sizeOk (.seq items.toList.reverse.toArray) := by
    show items.toList.reverse.toArray.size ≤ sizeLine
    rw [List.size_toArray, List.length_reverse, Array.length_toList]
    exact hsz
  obtain ⟨os, hos, hcs, hds⟩ := id hs
  have hTs : s.TypeIs (.ref sl) "slice" := ⟨os, hos, hcs⟩
  unfold getItem
  try with_reducible refine wpAny_holding ?_
  first | refine wpAny_bind (wpAny_pure ?_) | skip
  refine wpAny_bind (wpAny_sequenceKey ht.typeIs (by decide) ?_)
  refine wpAny_bind (wpAny_callSpecial?_slot (name := Str.ofString "__getitem__") ht.typeIs PyProof.Rows.slot_tuple_getitem
    (wpAny_call_entry PyProof.Rows.slot_tuple_getitem ht.typeIs entry_tuple_getitem ?_ (args_tuple_getitem _ _)))
  show wpAny _ _ (Builtin.Tuple.tupleItemsOf (.ref t) >>= _) _ _ s
  refine wpAny_bind (tupleItemsOf_ ht ?_)
  refine wpAny_bind (wpAny_typeOf hTs ?_)
  rw [if_pos (by decide)]
  refine wpAny_bind (sliceApplied_back hs ps ?_)
  show wpAny _ _ (if (((items.size : Int) - 1) == 0 && (-1 : Int) == 1 && items.size == items.size) = true then _ else _) _ _ s
  rw [if_neg (by simp), pick_back]
  first
    | exact wpAny_bind (m := Builtin.Tuple.tupleExact _) (wpAny_newObj_type (wpAny_pure ⟨_, rfl, wpAny_pure h⟩) htake)
    | exact wpAny_bind (m := Builtin.Tuple.tupleExact _) (wpAny_newObj_type (wpAny_bind (wpAny_pure (wpAny_pure ⟨_, rfl, wpAny_pure h⟩))) htake)
    | exact wpAny_bind (wpAny_bind (m := Builtin.Tuple.tupleExact _) (wpAny_newObj_type (wpAny_pure (wpAny_pure ⟨_, rfl, wpAny_pure h⟩)) htake))
    | exact wpAny_bind (wpAny_bind (m := Builtin.Tuple.tupleExact _) (wpAny_newObj_type (wpAny_pure ⟨_, rfl, wpAny_pure h⟩) htake))
end
end DL

set_option Elab.async false
set_option linter.all false
set_option maxRecDepth 100000
set_option maxHeartbeats 4000000
/-! DL, part f: defs under known guards (FnG), their calls; the law's own call. -/
namespace DL
open PySem PySem.Spec PyProof.Rows L2
/-- as FnOk, where besides no guard is on the stack -/
structure FnG (P : Program) (w : World) (K : Fr8) (mg : Str → Option Value) (base : Heap) (CX : CXT) (k : Nat) (f : Addr) (fd : FuncData) (ps : List Str) (sp : Sp) : Prop where
  len : ∀ vs H Q E, sp vs H Q E → vs.length = ps.length
  run : ∀ (A : Around) (outer : List Env) (s : Shared) (H : Hp) (args : Args) (us : List Value) (vs : List V) (Q : VK) (E : XK), A.guards = some [] → Room k A → Env0 P w K mg base A outer s H → BindsTo s fd args (ps.zip us) → Vals vs us → sp vs H Q E →
    codeAny (model P w) A (.call (.ref f) args) (CR CX outer P w H s Q E) s
theorem FnG.mono {P : Program} {w : World} {K : Fr8} {mg : Str → Option Value} {base : Heap} {CX : CXT} {j k : Nat} {f : Addr} {fd : FuncData} {ps : List Str} {sp : Sp} (F : FnG P w K mg base CX j f fd ps sp) (h : j ≤ k) :
    FnG P w K mg base CX k f fd ps sp := ⟨F.len, fun A outer s H args us vs Q E hg hr => F.run A outer s H args us vs Q E hg (hr.mono h)⟩
theorem fng_of {CX : CXT} {P : Program} {w : World} {K : Fr8} {mg : Str → Option Value} {base : Heap} {k : Nat} {f : Addr} {name qual : Str} {params : Arguments} {body : List Stmt} {scope : Scope} {dV kV doc pm cdv ct oc : Value} {an od : Option Addr}
    {osl : Array (Option Value)} {N ps : List Str} {sp : Sp} (lk : K.lookup f = some ⟨oc, od, .func (PySem.W.fnOf name qual params body scope dV kV doc pm an cdv ct), osl⟩) (hcd : PySem.W.codeIn K cdv qual = true) (S : FnScope N ps scope)
    (len : ∀ vs H Q E, sp vs H Q E → vs.length = ps.length)
    (hbody : ∀ (A : Around) (outer : List Env) (s : Shared) (H : Hp) (vs : List V) (Q : VK) (E : XK), A.guards = some [] → Room k (A.deeper (envOfC qual scope s.heap.objs.size f cdv)) → sp vs H Q E →
      ∃ t, PSs (cxOf CX P w K mg base N qual scope f cdv A outer s H E) body t ∧ t { nx := fun _ H' => Q .non H', rt := Q } (start N vs) H) :
    FnG P w K mg base CX (k + 1) f (PySem.W.fnOf name qual params body scope dV kV doc pm an cdv ct) ps sp := by
  refine ⟨len, fun A outer s H args us vs Q E hgu hr e0 hb r hsp => ?_⟩
  have hl := len _ _ _ _ hsp
  have KX : K.In s.heap := e0.mod.kin.keeps fun b o e => (e0.bs b o e).1
  have lim : s.heap.NoLimit := e0.mod.nolimit.keeps fun b o e => (e0.bs b o e).1
  have hkd : ∀ y ∈ ps.zip us, scope.names.lookup y.1 = some .local ∨ (scope.names.lookup y.1 = some .cell ∧ ((cellsFrom (s.heap.objs.size + 1) scope.names []).lookup y.1).isSome = true) := fun ⟨n, v⟩ hy => by
    rcases S.par n (List.of_mem_zip hy).1 with q | q
    · exact .inl q
    · exact .inr ⟨q, PySem.W.cellsFrom_some _ _ _ (.inl q)⟩
  refine codeAny_call_function hr.depth (KX _ _ lk) rfl S.co S.gen rfl (PySem.W.codeRec_of KX hcd) (hb _ _ _ _ ?_)
  refine wpAny_newFunctionEnv_cells S.kind hkd fun env he s1 x => ?_
  subst he
  refine ⟨lim.keeps x.toInCall.keep, codeAny_func ?_⟩
  obtain ⟨t, ht, hq⟩ := hbody A outer s H vs Q E hgu (hr.deeper _) hsp
  have I : Inv (cxOf CX P w K mg base N qual scope f cdv A outer s H E) [] (start N vs) H s1 := inv_start S hr.hd e0 hl r x
  refine wpAny_mono (ht.run [] s1 (start N vs) H _ I hq) (fun fl s' hs => ?_) fun e s' hs => hs
  cases fl with
  | ret u =>
    obtain ⟨v, σ', H', J, rv, q⟩ := hs
    exact ⟨v, H', J.os, J.bare, J.base, J.hok, rv, q⟩
  | next =>
    obtain ⟨σ', H', J, q⟩ := hs
    exact ⟨V.non, H', J.os, J.bare, J.base, J.hok, rfl, q⟩
  | brk => obtain ⟨_, _, _, q⟩ := hs; exact False.elim q
  | cont => obtain ⟨_, _, _, q⟩ := hs; exact False.elim q
section
variable {X : Cx} {CX : CXT} {k : Nat} {f : Addr} {fd : FuncData} {ps ks : List Str} {sp : Sp} {dvs : List V} {ds : List Value} {E : XK} {x : Str} {p pos : Pos} {e : Expr} {es : List Expr} {kws : List Keyword} {t tk : TA}
theorem run_fng {pins : List (Addr × Obj)} {σ : SL} {H : Hp} {s : Shared} {Q : VK} {us : List Value} {vs : List V} (F : FnG X.prog X.w X.K X.mg X.base CX k f fd ps sp) (hgu : X.A.guards = some []) (hr : Room k X.A) (hb : Binds X.K fd ps []) (hx : Passes CX X E)
    (I : Inv X pins σ H s) (r : Vals vs us) (h : sp vs H Q E) : wpAny (model X.prog X.w) X.A (call (.ref f) us) (EP X pins σ Q) X.xe s := by
  have hl : (us ++ []).length = ps.length := by rw [List.append_nil, ← r.length]; exact F.len _ _ _ _ h
  have hb' := hb s us I.kIn hl
  rw [List.append_nil] at hb'
  refine wpAny_call (codeAny_mono (F.run X.A X.stack s H ⟨us, []⟩ us vs Q E hgu hr I.env0 hb' r h) fun r s' hq => ?_)
  cases r with
  | error er => exact hx pins σ H s er s' I hq
  | ok fl =>
    cases fl with
    | ret u => exact I.after hq
    | next => exact False.elim hq
    | brk => exact False.elim hq
    | cont => exact False.elim hq
def tCallG (sp : Sp) (E : XK) (t : TA) : TE := fun σ H Q => t σ H fun vs H1 => sp vs H1 Q E
theorem pe_callG (F : FnG X.prog X.w X.K X.mg X.base CX k f fd ps sp) (hgu : X.A.guards = some []) (hr : Room k X.A) (hg : Gl X x) (hm : X.mg x = some (.ref f)) (hk : PySem.W.keepIn X.K (.ref f) = true) (hb : Binds X.K fd ps []) (hx : Passes CX X E)
    (ha : PA X (e :: es) t) (hdb : (x == ("__debug__" : Str)) = false := by decide) (he : starEach (e :: es) X.env = (false, eval e X.env) :: starEach es X.env := by rfl) (hpl : (backTo pos (starEach es X.env)).any (·.1) = false := by rfl) :
    PE X (.Call (.Name x p) (e :: es) [] pos) (tCallG sp E t) := by
  refine ⟨fun pins s σ H Q I h => ?_⟩
  refine wpAny_Call_Name_kw (ld_glob I hg hm ?_ hdb)
  refine PySem.W.callWith_K (h₀ := X.base) I.ok.mod.kin hk (thn (ha.run pos pins s σ H _ I h) fun us s1 ⟨vs, H1, I1, r, q⟩ => ⟨I1.kIn, ?_⟩) he hpl
  exact run_fng F hgu hr hb hx I1 r q
variable {g : List Value → List Value → List Value} {gV : List V → List V → List V}
theorem run_fngK {pins : List (Addr × Obj)} {σ : SL} {H : Hp} {s : Shared} {Q : VK} {us ws : List Value} {vs zs : List V} (F : FnG X.prog X.w X.K X.mg X.base CX k f fd ps sp) (hgu : X.A.guards = some []) (hr : Room k X.A) (hb : KBinds X.K fd ps ks g gV) (hx : Passes CX X E)
    (I : Inv X pins σ H s) (r : Vals vs us) (rz : Vals zs ws) (h : sp (gV vs zs) H Q E) : wpAny (model X.prog X.w) X.A (call (.ref f) us (ks.zip ws)) (EP X pins σ Q) X.xe s := by
  have r2 := hb.rel r rz
  have hl : (g us ws).length = ps.length := by rw [← r2.length]; exact F.len _ _ _ _ h
  refine wpAny_call (codeAny_mono (F.run X.A X.stack s H ⟨us, ks.zip ws⟩ (g us ws) (gV vs zs) Q E hgu hr I.env0 (hb.to s us ws I.kIn hl) r2 h) fun r s' hq => ?_)
  cases r with
  | error er => exact hx pins σ H s er s' I hq
  | ok fl =>
    cases fl with
    | ret u => exact I.after hq
    | next => exact False.elim hq
    | brk => exact False.elim hq
    | cont => exact False.elim hq
end
theorem law_callG {P : Program} {w : World} {K : PySem.W.Frag} {mg mb : Str → Option Value} {CX : CXT} {k : Nat} {fa a : Addr} {fd : FuncData} {x : Str} {sp : Sp} {sE : Shared} {vs : List Value} {ns : List Int}
    (KX : K.In sE.heap) (hns : sE.heap.Ns mainGlobals mg) (hb : sE.heap.Ns builtinsNs mb) (hbb : ∀ x : Str, x ≠ "__name__" → mb x = bootBuiltins x) (hlim : sE.heap.NoLimit) (hg : sE.gens = #[])
    (ha : sE.heap.get? a = some { cls := .type "list", data := .seq vs.toArray }) (hi : IntsAre vs ns) (hl : ns.length ≤ sizeLine) (hr : Room k callerA)
    (F : ∀ base : Heap, K.In base → base.Ns mainGlobals mg → FnG P w K mg base CX k fa fd [x] sp) (hbind : ∀ (s : Shared) (u : Value), BindsTo s fd ⟨[u], []⟩ [(x, u)])
    (hsp : ∀ H : Hp, Only H → SqL K H a (ns.map V.int) → sp [.ref a] H (fun v _ => v = .bl true) fun _ _ _ => False)
    (hCX : ∀ H e s', CX [] H sE (fun _ _ _ => False) e s' → False) :
    codeAny (model P w) callerA (.call (.ref fa) ⟨[.ref a], []⟩) (fun r s' => r = .ok (.ret (.bool true)) ∧ OldK sE.heap s'.heap ∧ s'.os = sE.os ∧ AllBare s'.gens) sE := by
  have rv := vals_ints hi
  have lnV := hi.length

  have mid : ∀ H : Hp, Only H → SqL K H a (ns.map V.int) → HOk P w H sE.heap → (∀ b, H b ≠ none → b = a) → (H a ≠ none → K.lookup a = none) →
      codeAny (model P w) callerA (.call (.ref fa) ⟨[.ref a], []⟩) (fun r s' => r = .ok (.ret (.bool true)) ∧ OldK sE.heap s'.heap ∧ s'.os = sE.os ∧ AllBare s'.gens) sE := by
    intro H hO hS hok hA hK
    have bOf : ∀ {b : Addr} {o : Obj}, sE.heap.get? b = some o → H b = none → (hidT sE.heap H).get? b = some o := fun e n => hidT_get e n
    have nA : ∀ {b : Addr} {o : Obj} {es : Array DictEntry} {ep : Nat}, sE.heap.get? b = some o → o.data = .dict es ep → H b = none := fun {b o es ep} e d => by
      cases q : H b with
      | none => rfl
      | some u =>
        have e' : b = a := hA b (by rw [q]; simp)
        subst e'
        rw [ha] at e; cases e
        have d' : Data.seq vs.toArray _ = Data.dict es ep := d
        cases d'
    have nsQ : ∀ {b : Addr} {m : Str → Option Value}, sE.heap.Ns b m → (hidT sE.heap H).Ns b m := fun {b m} ⟨o, es, ep, e, d, r⟩ => ⟨o, es, ep, bOf e (nA e d), d, r⟩
    have hKq : K.In (hidT sE.heap H) := fun b o e => bOf (KX b o e) (by
      cases q : H b with
      | none => rfl
      | some u =>
        have e' : b = a := hA b (by rw [q]; simp)
        subst e'
        rw [hK (by rw [q]; simp)] at e; cases e)
    have hM : Mod K mg (hidT sE.heap H) := ⟨hKq, nsQ hns, ⟨mb, nsQ hb, hbb⟩, let ⟨mc, h1, h2⟩ := hlim; ⟨mc, nsQ h1, h2⟩⟩
    have e0 : Env0 P w K mg (hidT sE.heap H) callerA [] sE H := ⟨rfl, hM, fun b o e => of_hidT e, Nat.le_of_eq (hidT_size _ _), trivial, fun b hb => absurd (show b ∈ ([] : List Addr) from hb) (by simp), hok, .of_eq hg⟩
    refine codeAny_mono ((F _ hKq (nsQ hns)).run callerA [] sE H ⟨[.ref a], []⟩ [.ref a] [.ref a] _ _ rfl hr e0 (hbind sE (.ref a)) (.cons rfl .nil) (hsp H hO hS)) fun r s' h => ?_
    cases r with
    | error er => exact (hCX H er s' h).elim
    | ok fl =>
      cases fl with
      | next => exact False.elim h
      | brk => exact False.elim h
      | cont => exact False.elim h
      | ret u =>
        obtain ⟨v, H', os, bare, un, hok', r', q⟩ := h
        have q' : v = .bl true := q
        subst q'
        obtain rfl : u = Value.bool true := r'
        refine ⟨rfl, OldK.of_keep fun b o e => ?_, os, bare⟩
        cases q : H b with
        | none => exact un.keep b o e q (by intro z; exact absurd (show b ∈ ([] : List Addr) from z) (by simp)) (by simp)
        | some u =>
          rcases hO b with z | ⟨ob, xs, z⟩
          · rw [q] at z; cases z
          · have z2 := un.frzs b ob _ z
            obtain ⟨e1, _⟩ := hok b _ z
            obtain ⟨e2, _⟩ := hok' b _ z2
            rw [e] at e1; cases e1
            exact e2
  cases hk : K.lookup a with
  | some o =>

    have e := KX a o hk
    rw [ha] at e
    cases e
    refine mid (fun _ => none) (fun _ => .inl rfl) (.inr ⟨_, vs.toArray, _, hk, rfl, rfl, rfl, by rw [List.size_toArray, lnV]; exact hl, by simpa using rv⟩) (fun b u z => by have z' : (none : Option HO) = some u := z; cases z') (fun b z => absurd rfl z) fun z => absurd rfl z
  | none =>
    refine mid (fun b => if b = a then some (.frz { cls := .type "list", data := .seq vs.toArray } (.lst (ns.map V.int))) else none) (fun b => ?_) (.inl (.inr ⟨{ cls := .type "list", data := .seq vs.toArray }, if_pos rfl⟩)) (fun b u z => ?_) (fun b z => ?_) fun _ => hk
    · by_cases hb : b = a
      · exact .inr ⟨_, _, if_pos hb⟩
      · exact .inl (if_neg hb)
    · by_cases hb : b = a
      · have z' := (if_pos hb).symm.trans z
        cases z'
        subst hb
        exact ⟨ha, by rw [List.length_map]; exact hl, vs, _, rv, ha⟩
      · have z' := (if_neg hb).symm.trans z
        cases z'
    · by_cases hb : b = a
      · exact hb
      · exact absurd (if_neg hb) z
theorem walk_ofG {l : PySem.W.OpenLaw} {n k : Nat} {q : Program} {loose : List Str} {XP : (Str → Option Value) → Heap → Prop} {YP : World → Heap → Prop} {d : DefRec} {K : Params → Fr8} {CX : World → CXT} {sp : World → Sp} {x : Str}
    (hn : l.most = some n) (hn2 : n ≤ sizeLine) (hdf : d.params.defaults = []) (hr : Room k callerA)
    (hY : ∀ (w : World) (h : Heap), YP w h → (K w.params).In h)
    (F : ∀ (w : World) (mg : Str → Option Value) (fa : Addr) (h : Heap), (K w.params).In h → h.Ns mainGlobals mg → mg d.name = some (.ref fa) →
      ∃ fd : FuncData, (∀ (s : Shared) (u : Value), BindsTo s fd ⟨[u], []⟩ [(x, u)]) ∧
        ∀ base : Heap, (K w.params).In base → base.Ns mainGlobals mg → FnG l.prog w (K w.params) mg base (CX w) k fa fd [x] (sp w))
    (hsp : ∀ (w : World) (H : Hp) (a : Addr) (ns : List Int), ns.length ≤ n → Only H → SqL (K w.params) H a (ns.map V.int) → sp w [.ref a] H (fun v _ => v = .bl true) fun _ _ _ => False)
    (hCX : ∀ (w : World) (H : Hp) (s : Shared) (e : Value) (s' : Shared), CX w [] H s (fun _ _ _ => False) e s' → False) :
    PySem.W.WalkO q loose XP YP l.row.toRowW d [] (fun f vs => PySem.call f vs) := by
  refine Att.attach_call hn hdf fun w s0 s1 mg mb fa o pm cd doc a vs ns G Y ho hd hcd hmg hobj hints hlen hg => ?_
  have KX := hY w _ Y
  obtain ⟨fd, hb, hF⟩ := F w mg fa _ KX G.T.g hmg
  exact law_callG KX G.T.g G.T.b G.T.builtins G.T.nolimit hg hobj hints (Nat.le_trans hlen hn2) hr hF hb (fun H hO hS => hsp w H a ns hlen hO hS) fun H er s' => hCX w H s1 er s'
end DL

set_option Elab.async false
set_option linter.all false
set_option maxRecDepth 100000
set_option maxHeartbeats 4000000
/-! DL, part g: a def as a function over data, and its calls; methods of owned lists; dicts with int keys; sorted. -/
namespace DL
open PySem PySem.Spec PyProof.Rows L2
section
variable {K : Fr8} {a0 : Addr} {B S0 S S' H H' : Hp} {σ : SL} {ρ : En}
theorem Rl.replace (R : Rl K a0 B S0 σ H S ρ) {k : Nat} {sv0 : SV} (h : ρ[k]? = some sv0) : ∃ f, SlotOk K a0 S H σ[k]? (some sv0) f ∧ (∀ b ∈ f, S b = none ∧ B b = none) ∧ ∀ H' S' sv f', SlotOk K a0 S' H' σ[k]? (some sv) f' → Same S S' → Same S' H' →
    (∀ b u, b ∉ f → H b = some u → H' b = some u) → (∀ b u, S' b = some u → S b = some u ∨ H b = none ∨ b ∈ f) → (∀ b ∈ f', b ∈ f ∨ H b = none) → (∀ b ∈ f', S' b = none) → Rl K a0 B S0 σ H' S' (ρ.set k sv) := by
  obtain ⟨ft, h1, h2, h3⟩ := R.ex
  have q := h1 k
  rw [h] at q
  have hk : k < ρ.length := by
    rcases Nat.lt_or_ge k ρ.length with z | z
    · exact z
    · rw [List.getElem?_eq_none z] at h; cases h
  refine ⟨ft k, q, fun b hb => h3 k b hb, fun H' S' sv f' ok m m' keep new nf nS => ?_⟩
  refine ⟨R.s0.trans m, m', fun b u e => keep b u (fun z => by rw [(h3 k b z).2] at e; cases e) (R.bb _ _ e), fun b u e => ?_, by simp [R.len], fun i => if i = k then f' else ft i, fun i => ?_, fun i j b hi hj => ?_, fun i b hb => ?_⟩
  · rcases new b u e with z | z | z
    · exact R.fr b u z
    · exact .inr (R.bb.free z)
    · exact .inr (h3 k b z).2
  · by_cases ei : i = k
    · subst ei
      dsimp only
      rw [if_pos rfl, List.getElem?_set_self hk]
      exact ok
    · dsimp only
      rw [if_neg ei, List.getElem?_set_ne (fun z => ei z.symm)]
      refine (h1 i).mono m fun b hb => ?_
      obtain ⟨u, eu⟩ := (h1 i).trk b hb
      rw [eu, keep b u (fun z => ei (h2 _ _ b hb z)) eu]
  · by_cases e1 : i = k
    · by_cases e2 : j = k
      · omega
      · simp only [if_pos e1, if_neg e2] at hi hj
        rcases nf b hi with z | z
        · exact absurd (h2 _ _ b hj z) e2
        · obtain ⟨u, eu⟩ := (h1 j).trk b hj
          rw [eu] at z; cases z
    · by_cases e2 : j = k
      · simp only [if_neg e1, if_pos e2] at hi hj
        rcases nf b hj with z | z
        · exact absurd (h2 _ _ b hi z) e1
        · obtain ⟨u, eu⟩ := (h1 i).trk b hi
          rw [eu] at z; cases z
      · simp only [if_neg e1, if_neg e2] at hi hj
        exact h2 _ _ b hi hj
  · by_cases ei : i = k
    · simp only [if_pos ei] at hb
      refine ⟨nS b hb, ?_⟩
      rcases nf b hb with z | z
      · exact (h3 k b z).2
      · exact R.bb.free z
    · simp only [if_neg ei] at hb
      refine ⟨?_, (h3 i b hb).2⟩
      cases q : S' b with
      | none => rfl
      | some u =>
        obtain ⟨u2, eu⟩ := (h1 i).trk b hb
        rcases new b u q with z | z | z
        · rw [(h3 i b hb).1] at z; cases z
        · rw [eu] at z; cases z
        · exact absurd (h2 _ _ b hb z) ei
theorem Rl.pad (R : Rl K a0 B S0 σ H S ρ) (m : Nat) : Rl K a0 B S0 (σ ++ List.replicate m none) H S (ρ ++ List.replicate m .un) := by
  obtain ⟨ft, h1, h2, h3⟩ := R.ex
  refine ⟨R.s0, R.sh, R.bb, R.fr, by simp [R.len], fun i => if i < ρ.length then ft i else [], fun i => ?_, fun i j a hi hj => ?_, fun i a ha => ?_⟩
  · have hl : σ.length = ρ.length := R.len
    by_cases hi : i < ρ.length
    · simp only [if_pos hi]
      rw [List.getElem?_append_left (by omega), List.getElem?_append_left hi]
      exact h1 i
    · simp only [if_neg hi]
      rw [List.getElem?_append_right (l₁ := ρ) (by omega), List.getElem?_replicate]
      split <;> rfl
  · by_cases e1 : i < ρ.length
    · by_cases e2 : j < ρ.length
      · simp only [if_pos e1, if_pos e2] at hi hj; exact h2 _ _ a hi hj
      · simp only [if_neg e2] at hj; simp at hj
    · simp only [if_neg e1] at hi; simp at hi
  · by_cases e1 : i < ρ.length
    · simp only [if_pos e1] at ha; exact h3 _ a ha
    · simp only [if_neg e1] at ha; simp at ha
def paOf (ρ : En) : SV := match ρ[0]? with
  | some (SV.pa o) => SV.pa o
  | _ => SV.un
theorem Rl.fin {v : V} {sv : SV} (R : Rl K a0 B S0 (some v :: σ) H S (sv :: ρ)) : Rl K a0 B S0 [some v, some (.ref a0)] H S [sv, paOf ρ] := by
  obtain ⟨ft, h1, h2, h3⟩ := R.ex
  have key : ∃ f1, SlotOk K a0 S H (some (some (.ref a0))) (some (paOf ρ)) f1 ∧ ∀ a ∈ f1, a ∈ ft 1 := by
    unfold paOf
    split
    · rename_i o e
      have q := h1 1
      rw [show (sv :: ρ)[1]? = ρ[0]? from rfl, e] at q
      obtain ⟨_, ob⟩ := q
      exact ⟨ft 1, ⟨rfl, ob⟩, fun a ha => ha⟩
    · exact ⟨[], rfl, fun a ha => by simp at ha⟩
  obtain ⟨f1, ok, sub⟩ := key
  refine ⟨R.s0, R.sh, R.bb, R.fr, rfl, fun i => match i with | 0 => ft 0 | 1 => f1 | _ + 2 => [], fun i => ?_, fun i j a hi hj => ?_, fun i a ha => ?_⟩
  · rcases i with _ | _ | i
    · exact h1 0
    · exact ok
    · rfl
  · rcases i with _ | _ | i <;> rcases j with _ | _ | j
    · rfl
    · exact absurd (h2 _ _ a hi (sub a hj)) (by omega)
    · simp at hj
    · exact absurd (h2 _ _ a (sub a hi) hj) (by omega)
    · rfl
    · simp at hj
    · simp at hi
    · simp at hi
    · simp at hi
  · rcases i with _ | _ | i
    · exact h3 0 a ha
    · exact h3 1 a (sub a ha)
    · simp at ha
end
/-! ### a def -/
abbrev SF := List SV → Option (SV × SV)
def spD (n : Nat) (K : Fr8) (F : SF) : Sp := fun vs H Q _ => ∃ a0 B S avs sv w, vs.length = n ∧ Rl K a0 B S (vs.map some) H S avs ∧ F avs = some (sv, w) ∧ ∀ v H' S', Same S S' → Rl K a0 B S [some v, some (.ref a0)] H' S' [sv, w] → Q v H'
def runD (N : Nat) (b : FS) : SF := fun avs => match b (avs ++ List.replicate (N - avs.length) .un) with
  | some (.rt sv ρ) => some (sv, paOf ρ)
  | some (.nx ρ) => some (.sh .none, paOf ρ)
  | _ => none
abbrev FnD (P : Program) (w : World) (K : Fr8) (mg : Str → Option Value) (base : Heap) (k : Nat) (f : Addr) (fd : FuncData) (ps : List Str) (F : SF) : Prop := FnG P w K mg base CX0 k f fd ps (spD ps.length K F)
section
variable {P : Program} {w : World} {K : Fr8} {mg : Str → Option Value} {base : Heap}
theorem fnd_of {x qual : Str} {st : Stmt} {f : Addr} {fd : FuncData} {N ps : List Str} {k : Nat} {b : FS} (F : Fun K x qual st f fd) (S : FnScope N ps (defScope st))
    (hbody : ∀ (cdv : Value) (A : Around) (outer : List Env) (s : Shared) (H : Hp) (E : XK), A.guards = some [] → Room k (A.deeper (envOfC qual (defScope st) s.heap.objs.size f cdv)) →
      PSs (cxOf CX0 P w K mg base N qual (defScope st) f cdv A outer s H E).nox (defBody st) (dS K b)) : FnD P w K mg base (k + 1) f fd ps (runD N.length b) := by
  obtain ⟨oc, od, kV, doc, pm, an, cdv, ct, osl, rfl, lk, hcd⟩ := F.ex
  refine fng_of lk hcd S (fun vs H Q E ⟨a0, B, Sx, avs, sv, w, hl, _⟩ => hl) fun A outer s H vs Q E hgu hr hsp => ?_
  refine ⟨_, (hbody cdv A outer s H E hgu hr).nox, ?_⟩
  obtain ⟨a0, B, Sx, avs, sv, w, hl, R, ff, q⟩ := hsp
  have hlen : vs.length = avs.length := by simpa using R.len
  unfold runD at ff
  have R1 := R.pad (N.length - vs.length)
  rw [← hlen] at ff
  split at ff
  · rename_i sv' ρ' e
    cases ff
    exact ⟨a0, B, Sx, Sx, _, _, R1, e, fun v σ H S' m R2 => q v H S' m R2.fin⟩
  · rename_i ρ' e
    cases ff
    exact ⟨a0, B, Sx, Sx, _, _, R1, e, fun σ H S' m R2 => q .non H S' m (R2.push_sh .non).fin⟩
  · cases ff
end
section
variable {X : Cx} {k : Nat} {f : Addr} {fd : FuncData} {ps : List Str} {F : SF} {x : Str} {p pos : Pos} {e e0 : Expr} {es : List Expr}
theorem obAt_fun {K : Fr8} {S H : Hp} {a : Addr} {o : Ob} {f f' : List Addr} (h : ObAt K S H a o f) (h' : ObAt K S H a o f') : f' = f := by
  cases o with
  | lst ds => rw [h.1, h'.1]
  | dK ds => rw [h.1, h'.1]
  | dT ds => rw [h.1, h'.1]
  | well cells s c =>
    obtain ⟨b, rfl, e1, _⟩ := h
    obtain ⟨b', rfl, e2, _⟩ := h'
    rw [e1] at e2; cases e2; rfl
  | deck cells s =>
    obtain ⟨b, rfl, e1, _⟩ := h
    obtain ⟨b', rfl, e2, _⟩ := h'
    rw [e1] at e2; cases e2; rfl
theorem RepA.slots {K : Fr8} {a0 : Addr} {B S H : Hp} {vs : List V} {ds : List D} (r : RepA K S vs ds) (m : Same S H) (mb : Same B H) : Rl K a0 B S (vs.map some) H S (ds.map SV.sh) := by
  refine ⟨Same.refl _, m, mb, fun b o e => .inl e, by simp [r.length], fun _ => [], fun i => ?_, fun i j a hi => by simp at hi, fun i a ha => by simp at ha⟩
  rw [List.getElem?_map, List.getElem?_map]
  cases h : ds[i]? with
  | none => rfl
  | some d =>
    obtain ⟨v, e, rr⟩ := r.get h
    rw [e]
    exact ⟨rfl, v, rfl, rr⟩
def fFn (F : SF) (fl : FL) : FE := fun ρ => ob2 (fl ρ) fun ds ρ1 => match F (ds.map SV.sh) with
  | some (.sh d, _) => some (d, ρ1)
  | _ => none
theorem rl_back {K : Fr8} {a0 a1 : Addr} {B S0 S S' H H' : Hp} {σ : SL} {ρ : En} {x : List (Option V)} {y : En} (R : Rl K a0 B S0 σ H S ρ) (R' : Rl K a1 H S x H' S' y) : Rl K a0 B S0 σ H' S' ρ :=
  R.grow R'.s0 R'.sh R'.bb R'.fr
theorem de_fn {fl : FL} (G : FnD X.prog X.w X.K X.mg X.base k f fd ps F) (hgu : X.A.guards = some []) (hr : Room k X.A) (hn : (e :: es).length = ps.length) (hg : Gl X x) (hm : X.mg x = some (.ref f)) (hk : PySem.W.keepIn X.K (.ref f) = true) (hb : Binds X.K fd ps [])
    (ha : PA X (e :: es) (dA X.K fl)) (hfl : ∀ ρ ds ρ', fl ρ = some (ds, ρ') → ds.length = (e :: es).length) (hdb : (x == ("__debug__" : Str)) = false := by decide) (he : starEach (e :: es) X.env = (false, eval e X.env) :: starEach es X.env := by rfl) (hpl : (backTo pos (starEach es X.env)).any (·.1) = false := by rfl) :
    PE X (.Call (.Name x p) (e :: es) [] pos) (dE X.K (fFn F fl)) :=
  pe_wk (pe_callG G hgu hr hg hm hk hb pass0 ha hdb he hpl) fun σ H Q ⟨a0, B, S0, S, ρ, d, ρ', R, f, q⟩ => by
    obtain ⟨ds, ρ1, e1, f⟩ := ob2_some f
    split at f
    · rename_i d' sw e2
      cases f
      refine ⟨a0, B, S0, S, ρ, ds, _, R, e1, fun vs H1 S1 m1 R1 r1 => ?_⟩
      refine ⟨0, H1, S1, _, _, _, by rw [r1.length, hfl _ _ _ e1, hn], r1.slots R1.sh (Same.refl _), e2, fun v H2 S2 m2 R2 => ?_⟩
      obtain ⟨_, e3, rv⟩ := R2.top_sh
      cases e3
      exact q v H2 S2 (m1.trans m2) (rl_back R1 R2) rv
    · cases f
def fFnO (F : SF) (fl : FL) : FO := fun ρ => ob2 (fl ρ) fun ds ρ1 => match F (ds.map SV.sh) with
  | some (.ow o, _) => some (o, ρ1)
  | _ => none
theorem do_fn {fl : FL} (G : FnD X.prog X.w X.K X.mg X.base k f fd ps F) (hgu : X.A.guards = some []) (hr : Room k X.A) (hn : (e :: es).length = ps.length) (hg : Gl X x) (hm : X.mg x = some (.ref f)) (hk : PySem.W.keepIn X.K (.ref f) = true) (hb : Binds X.K fd ps [])
    (ha : PA X (e :: es) (dA X.K fl)) (hfl : ∀ ρ ds ρ', fl ρ = some (ds, ρ') → ds.length = (e :: es).length) (hdb : (x == ("__debug__" : Str)) = false := by decide) (he : starEach (e :: es) X.env = (false, eval e X.env) :: starEach es X.env := by rfl) (hpl : (backTo pos (starEach es X.env)).any (·.1) = false := by rfl) :
    PE X (.Call (.Name x p) (e :: es) [] pos) (dO X.K (fFnO F fl)) :=
  pe_wk (pe_callG G hgu hr hg hm hk hb pass0 ha hdb he hpl) fun σ H Q ⟨a0, B, S0, S, ρ, d, ρ', R, f, q⟩ => by
    obtain ⟨ds, ρ1, e1, f⟩ := ob2_some f
    split at f
    · rename_i d' sw e2
      cases f
      refine ⟨a0, B, S0, S, ρ, ds, _, R, e1, fun vs H1 S1 m1 R1 r1 => ?_⟩
      refine ⟨0, H1, S1, _, _, _, by rw [r1.length, hfl _ _ _ e1, hn], r1.slots R1.sh (Same.refl _), e2, fun v H2 S2 m2 R2 => ?_⟩
      have R3 := rl_back R1 R2
      obtain ⟨ft, h1, h2, h3⟩ := R2.ex
      obtain ⟨a, ea, ob⟩ := h1 0
      cases ea
      refine q _ H2 S2 (m1.trans m2) (R3.push_ow ob (fun b hb => ⟨(h3 0 b hb).1, R1.bb.free (h3 0 b hb).2⟩) fun gt g1 g2 i b hi hb => ?_)
      -- the caller's own things were tracked ahead of the call
      have hH1 : H1 b = none := (h3 0 b hb).2
      exact absurd hi (by
        intro hi
        obtain ⟨gu, k1, k2, k3⟩ := R1.ex
        obtain ⟨u, eu⟩ := (g1 i).trk b hi
        -- b is owned by a slot of the caller: it stands at the slot's address, which stood ahead
        have hs := g1 i
        have hs' := k1 i
        rcases hρ : ρ'[i]? with _ | (_ | dd | oo | oo | nn)
        · rw [hρ] at hs; rw [show gt i = [] from hs] at hi; simp at hi
        · rw [hρ] at hs; rw [show gt i = [] from hs] at hi; simp at hi
        · rw [hρ] at hs; obtain ⟨z, _⟩ := hs; rw [z] at hi; simp at hi
        · rw [hρ] at hs hs'
          obtain ⟨a1, z1, o1⟩ := hs
          obtain ⟨a2, z2, o2⟩ := hs'
          rw [z1] at z2; cases z2
          obtain ⟨u2, eu2⟩ := o2.trk b (by
            have kk : ∀ c ∈ gu i, H2 c = H1 c := fun c hc => by
              obtain ⟨u3, e3⟩ := o2.trk c hc
              rw [e3]; exact R2.bb _ _ e3
            have o3 := o2.mono m2 kk
            exact obAt_fun o3 o1 ▸ hi)
          rw [hH1] at eu2; cases eu2
        · rw [hρ] at hs hs'
          obtain ⟨z1, o1⟩ := hs
          obtain ⟨z2, o2⟩ := hs'
          obtain ⟨u2, eu2⟩ := o2.trk b (by
            have kk : ∀ c ∈ gu i, H2 c = H1 c := fun c hc => by
              obtain ⟨u3, e3⟩ := o2.trk c hc
              rw [e3]; exact R2.bb _ _ e3
            have o3 := o2.mono m2 kk
            exact obAt_fun o3 o1 ▸ hi)
          rw [hH1] at eu2; cases eu2
        · rw [hρ] at hs; obtain ⟨z, _⟩ := hs; rw [z] at hi; simp at hi)
    · cases f
end
end DL

set_option Elab.async false
set_option linter.all false
set_option maxRecDepth 100000
set_option maxHeartbeats 4000000
/-! DL, part h: calls that hand on the well; methods of owned lists; dicts with int keys; sorted; index; [::-1]. -/
namespace DL
open PySem PySem.Spec PyProof.Rows L2
section
variable {X : Cx} {k : Nat} {f : Addr} {fd : FuncData} {ps : List Str} {F : SF} {x : Str} {p pos : Pos} {e a b : Expr} {es : List Expr}
/-- f(well, ..): the well in slot k -/
def fFnW (F : SF) (k : Nat) (fl : FL) : FE := fun ρ => match ρ[k]? with
  | some (.ow _) => ob2 (fl ρ) fun ds ρ1 => (match ρ1[k]? with
    | some (.ow o) => (match F (.pa o :: ds.map SV.sh) with
      | some (.sh d, .pa o') => some (d, ρ1.set k (.ow o'))
      | _ => none)
    | _ => none)
  | some (.pa _) => ob2 (fl ρ) fun ds ρ1 => (match ρ1[k]? with
    | some (.pa o) => (match F (.pa o :: ds.map SV.sh) with
      | some (.sh d, .pa o') => some (d, ρ1.set k (.pa o'))
      | _ => none)
    | _ => none)
  | _ => none
theorem RepA.slotsW {K : Fr8} {a1 : Addr} {B S H : Hp} {o : Ob} {ff : List Addr} {vs : List V} {ds : List D} (r : RepA K S vs ds) (ob : ObAt K S H a1 o ff) (m : Same S H) (mb : Same B H) (n : ∀ b ∈ ff, S b = none ∧ B b = none) : Rl K a1 B S ((V.ref a1 :: vs).map some) H S (.pa o :: ds.map SV.sh) := by
  refine ⟨Same.refl _, m, mb, fun b u e => .inl e, by simp [r.length], fun i => match i with | 0 => ff | _ + 1 => [], fun i => ?_, fun i j c hi hj => ?_, fun i c hc => ?_⟩
  · rcases i with _ | i
    · exact ⟨rfl, ob⟩
    · show SlotOk K a1 S H (vs.map some)[i]? (ds.map SV.sh)[i]? []
      rw [List.getElem?_map, List.getElem?_map]
      cases h : ds[i]? with
      | none => rfl
      | some d =>
        obtain ⟨v, e, rr⟩ := r.get h
        rw [e]
        exact ⟨rfl, v, rfl, rr⟩
  · rcases i with _ | i <;> rcases j with _ | j
    · rfl
    · simp at hj
    · simp at hi
    · simp at hi
  · rcases i with _ | i
    · exact n c hc
    · simp at hc
theorem fnw_core {K : Fr8} {a0 a1 : Addr} {B S0 S S2 H H2 : Hp} {σ : SL} {ρ : En} {k : Nat} {o o' : Ob} {sv0 sv1 : SV} {ff : List Addr} {v : V} {d : D} (R : Rl K a0 B S0 σ H S ρ) (hk : ρ[k]? = some sv0)
    (ob : ObAt K S H a1 o ff) (hs0 : ∀ f, SlotOk K a0 S H σ[k]? (some sv0) f → f = ff) (hs1 : ∀ S' H' f', ObAt K S' H' a1 o' f' → SlotOk K a0 S' H' σ[k]? (some sv1) f')
    {B' : Hp} (hB1 : ∀ b ∈ ff, B' b = none) (hB2 : ∀ b, b ∉ ff → B' b = H b) (R2 : Rl K a1 B' S [some v, some (.ref a1)] H2 S2 [.sh d, .pa o']) : Rl K a0 B S0 σ H2 S2 (ρ.set k sv1) ∧ Rep K S2 v d := by
  classical
  obtain ⟨f, ok, nf, upd⟩ := R.replace hk
  have ef := hs0 f ok
  subst ef
  obtain ⟨gt, g1, g2, g3⟩ := R2.ex
  obtain ⟨_, v', ev, rv⟩ := g1 0
  have ev' : v = v' := Option.some.inj (Option.some.inj ev)
  subst ev'
  obtain ⟨_, ob'⟩ := g1 1
  refine ⟨upd H2 S2 sv1 (gt 1) (hs1 _ _ _ ob') R2.s0 R2.sh (fun b u hb e => R2.bb b u (by rw [hB2 b hb]; exact e)) (fun b u e => ?_) (fun b hb => ?_) (fun b hb => (g3 1 b hb).1), rv⟩
  · rcases R2.fr b u e with z | z
    · exact .inl z
    · by_cases hb : b ∈ f
      · exact .inr (.inr hb)
      · rw [hB2 b hb] at z; exact .inr (.inl z)
  · have z := (g3 1 b hb).2
    by_cases hf : b ∈ f
    · exact .inl hf
    · rw [hB2 b hf] at z; exact .inr z
theorem de_fnW {fl : FL} (G : FnD X.prog X.w X.K X.mg X.base k f fd ps F) (hgu : X.A.guards = some []) (hr : Room k X.A) (hn : (e :: es).length = ps.length) (hg : Gl X x) (hm : X.mg x = some (.ref f)) (hk : PySem.W.keepIn X.K (.ref f) = true) (hb : Binds X.K fd ps [])
    {j : Nat} (he0 : PE X e (tVar j)) (ha : PA X es (dA X.K fl)) (hfl : ∀ ρ ds ρ', fl ρ = some (ds, ρ') → ds.length = es.length) (hdb : (x == ("__debug__" : Str)) = false := by decide) (he : starEach (e :: es) X.env = (false, eval e X.env) :: starEach es X.env := by rfl) (hpl : (backTo pos (starEach es X.env)).any (·.1) = false := by rfl) :
    PE X (.Call (.Name x p) (e :: es) [] pos) (dE X.K (fFnW F j fl)) :=
  pe_wk (pe_callG G hgu hr hg hm hk hb pass0 (pa_cons he0 ha he) hdb he hpl) fun σ H Q ⟨a0, B, S0, S, ρ, d, ρ', R, f, q⟩ => by
    classical
    unfold fFnW at f
    split at f
    · rename_i o0 hk0
      obtain ⟨aa, _, hu, _⟩ := R.change hk0
      obtain ⟨ds, ρ1, e1, f⟩ := ob2_some f
      split at f
      · rename_i o hk1
        split at f
        · rename_i d' o' e2
          cases f
          refine ⟨_, hu, a0, B, S0, S, ρ, ds, _, R, e1, fun vs H1 S1 m1 R1 r1 => ?_⟩
          obtain ⟨a2, ff, hu2, ob, nf, _⟩ := R1.change hk1
          rw [hu] at hu2
          cases hu2
          refine ⟨aa, fun b => if b ∈ ff then none else H1 b, S1, _, _, _, by rw [← hn]; simp [r1.length, hfl _ _ _ e1], r1.slotsW ob R1.sh (fun b u e => ?_) (fun b hb => ⟨(nf b hb).1, by simp only [if_pos hb]⟩), e2, fun v H2 S2 m2 R2 => ?_⟩
          · by_cases hb : b ∈ ff
            · simp only [if_pos hb] at e; cases e
            · simp only [if_neg hb] at e; exact e
          · obtain ⟨R3, rv⟩ := fnw_core (a1 := aa) (ff := ff) (sv1 := .ow o') R1 hk1 ob (fun f z => by
              obtain ⟨a3, z1, z2⟩ := z
              rw [hu] at z1; cases z1
              exact obAt_fun ob z2) (fun S' H' f' z => ⟨aa, hu, z⟩) (fun b hb => if_pos hb) (fun b hb => if_neg hb) R2
            exact q v H2 S2 (m1.trans m2) R3 rv
        · cases f
      · cases f
    · rename_i o0 hk0
      obtain ⟨_, hu, _⟩ := R.changeP hk0
      obtain ⟨ds, ρ1, e1, f⟩ := ob2_some f
      split at f
      · rename_i o hk1
        split at f
        · rename_i d' o' e2
          cases f
          refine ⟨_, hu, a0, B, S0, S, ρ, ds, _, R, e1, fun vs H1 S1 m1 R1 r1 => ?_⟩
          obtain ⟨ff, hu2, ob, nf, _⟩ := R1.changeP hk1
          refine ⟨a0, fun b => if b ∈ ff then none else H1 b, S1, _, _, _, by rw [← hn]; simp [r1.length, hfl _ _ _ e1], r1.slotsW ob R1.sh (fun b u e => ?_) (fun b hb => ⟨(nf b hb).1, by simp only [if_pos hb]⟩), e2, fun v H2 S2 m2 R2 => ?_⟩
          · by_cases hb : b ∈ ff
            · simp only [if_pos hb] at e; cases e
            · simp only [if_neg hb] at e; exact e
          · obtain ⟨R3, rv⟩ := fnw_core (a1 := a0) (ff := ff) (sv1 := .pa o') R1 hk1 ob (fun f z => by
              obtain ⟨z1, z2⟩ := z
              exact obAt_fun ob z2) (fun S' H' f' z => ⟨hu, z⟩) (fun b hb => if_pos hb) (fun b hb => if_neg hb) R2
            exact q v H2 S2 (m1.trans m2) R3 rv
        · cases f
      · cases f
    · cases f

/-! ### methods that change an owned list -/
def fMt (k : Nat) (g : List D → List D → Option (D × List D)) (fl : FL) : FE := fun ρ => match ρ[k]? with
  | some (.ow (.lst _)) => ob2 (fl ρ) fun ads ρ1 => (match ρ1[k]? with
    | some (.ow (.lst ds)) => (match g ds ads with
      | some (ret, ds') => some (ret, ρ1.set k (.ow (.lst ds')))
      | none => none)
    | _ => none)
  | _ => none
theorem mtr_wk {id : String} {r r' : V → List V → Hp → VK → Prop} (h : MtR X id r) (w : ∀ x vs H Q, r' x vs H Q → r x vs H Q) : MtR X id r' := fun pins s σ H x xs v us Q I rx rs q => h pins s σ H x xs v us Q I rx rs (w x xs H Q q)
theorem meth_go {K : Fr8} {a0 : Addr} {B S0 S H : Hp} {σ : SL} {ρ ρ' : En} {k : Nat} {g : List D → List D → Option (D × List D)} {fl : FL} {d : D} {Q : VK} (R : Rl K a0 B S0 σ H S ρ) (f : fMt k g fl ρ = some (d, ρ')) (q : ∀ v H' S', Same S S' → Rl K a0 B S0 σ H' S' ρ' → Rep K S' v d → Q v H') :
    ∃ aa xs, σ[k]? = some (some (.ref aa)) ∧ H aa = some (.lst xs) ∧ dA K fl σ H fun vs H1 => rM K g (.ref aa) vs H1 Q := by
  unfold fMt at f
  split at f
  case h_2 => cases f
  rename_i o hk0
  obtain ⟨aa, f0, hu, ob0, nf0, _⟩ := R.change hk0
  obtain ⟨ads, ρ1, e1, f⟩ := ob2_some f
  split at f
  case h_2 => cases f
  rename_i ds hk1
  split at f
  case h_2 => cases f
  rename_i ret ds' e2
  cases f
  obtain ⟨_, xs, hx, _⟩ := ob0
  refine ⟨aa, xs, hu, hx, a0, B, S0, S, ρ, ads, _, R, e1, fun vs H1 S1 m1 R1 r1 => ?_⟩
  obtain ⟨a2, ff, hu2, ob, nf, back⟩ := R1.change hk1
  rw [hu] at hu2
  cases hu2
  obtain ⟨rfl, ys, ey, ra⟩ := ob
  refine ⟨S1, aa, ys, ds, ads, d, ds', rfl, ey, R1.sh, ra, r1, e2, fun v xs' rv ra' => ?_⟩
  exact q v _ S1 m1 (back _ (.lst ds') [aa] ⟨rfl, xs', upd_same, ra'⟩ (fun b hb _ => by rw [upd_ne (by simpa using hb)]) (fun b hb => .inl hb)) rv
end
end DL

set_option Elab.async false
set_option linter.all false
set_option maxRecDepth 100000
set_option maxHeartbeats 4000000
/-! DL, part i: methods of lists and tuples, [::-1], dicts with int and text keys, sorted of ints. -/
namespace DL
open PySem PySem.Spec PyProof.Rows L2
section
variable {X : Cx} {x : Str} {p pos apos cpos : Pos} {e o a b : Expr} {es : List Expr} {name : Str} {id T : String}
theorem de_mt {k : Nat} {g : List D → List D → Option (D × List D)} {fl : FL} (pa : PlainAttrs "list") (slot : Slot "list" name id) (hty : typeOf (.builtin id) = pure (.type "method_descriptor")) (hm : MtR X id (rM X.K g)) (ho : PE X o (tVar k)) (ha : PA X (e :: es) (dA X.K fl))
    (hbase : attributeBase o name X.env (eval o X.env) = eval o X.env := by rfl)
    (hfew : ((backTo cpos (starEach (e :: es) X.env)).all (fun x => !x.1) && (backToKw cpos (keywordEach [] X.env)).all (fun x => x.1.isSome)
      && decide ((e :: es).length + ([] : List Keyword).length + (if ([] : List Keyword).isEmpty then 0 else 1) < 30)) = true := by rfl)
    (hline : (apos.endLine == cpos.line) = true := by rfl) (hs : starEach (e :: es) X.env = (false, eval e X.env) :: starEach es X.env := by rfl) (hplain : (backTo cpos (starEach es X.env)).any (·.1) = false := by rfl) :
    PE X (.Call (.Attribute o name apos) (e :: es) [] cpos) (dE X.K (fMt k g fl)) :=
  pe_wk (pe_bm pa slot hty hm ho ha hbase hfew hline hs hplain) fun σ H Q ⟨a0, B, S0, S, ρ, d, ρ', R, f, q⟩ => by
    obtain ⟨aa, xs, h1, h2, h3⟩ := meth_go R f q
    exact ⟨_, h1, .inl ⟨rfl, _, .inl (.inl h2)⟩, h3⟩
theorem de_mt0 {k : Nat} {g : List D → List D → Option (D × List D)} (pa : PlainAttrs "list") (slot : Slot "list" name id) (hty : typeOf (.builtin id) = pure (.type "method_descriptor")) (hm : MtR X id (rM X.K g)) (ho : PE X o (tVar k))
    (hbase : attributeBase o name X.env (eval o X.env) = eval o X.env := by rfl) (hline : (apos.endLine == cpos.line) = true := by rfl) : PE X (.Call (.Attribute o name apos) [] [] cpos) (dE X.K (fMt k g fNil)) :=
  pe_wk (pe_bm0 pa slot hty hm ho hbase hline) fun σ H Q ⟨a0, B, S0, S, ρ, d, ρ', R, f, q⟩ => by
    obtain ⟨aa, xs, h1, h2, a1, B1, S01, S1, ρ1, ds, ρ2, R1, e1, h3⟩ := meth_go R f q
    cases e1
    exact ⟨_, h1, .inl ⟨rfl, _, .inl (.inl h2)⟩, h3 [] _ _ (Same.refl _) R1 .nil⟩
def gAppend (ds : List D) (as : List D) : Option (D × List D) := match as with
  | [d] => if ds.length < 1000000 then some (.none, ds ++ [d]) else none
  | _ => none
theorem lt_l6 {n : Nat} (h : n < 1000000) : n < sizeLine := Nat.lt_of_lt_of_le h (by decide)
theorem dmt_append : MtR X "list.append" (rM X.K gAppend) := mtr_wk (r := rAppend) mt_append fun x vs H Q ⟨S, a, xs, ds, ads, ret, ds', e, h, m, r, ra, g, q⟩ => by
  unfold gAppend at g
  split at g
  · split at g
    · rename_i hl
      cases g
      cases ra with
      | cons r1 r2 => cases r2; exact ⟨a, xs, _, e, rfl, h, by rw [r.length]; exact lt_l6 hl, q _ _ .non (r.append (.cons r1 .nil))⟩
    · cases g
  · cases g
def gInsert (ds : List D) (as : List D) : Option (D × List D) := match as with
  | [.int i, d] => if ds.length < 1000000 ∧ 0 ≤ i ∧ i < 2 ^ 63 then some (.none, ds.take i.toNat ++ [d] ++ ds.drop i.toNat) else none
  | _ => none
theorem dmt_insert : MtR X "list.insert" (rM X.K gInsert) := mtr_wk mt_insert fun x vs H Q ⟨S, a, xs, ds, ads, ret, ds', e, h, m, r, ra, g, q⟩ => by
  unfold gInsert at g
  split at g
  · split at g
    · rename_i hl
      cases g
      cases ra with
      | cons r1 r2 =>
        cases r2 with
        | cons r2 r3 =>
          cases r3; cases r1
          exact ⟨a, xs, _, _, e, rfl, h, by rw [r.length]; exact lt_l6 hl.1, hl.2.1, hl.2.2, q _ _ .non (((r.take _).append (.cons r2 .nil)).append (r.drop _))⟩
    · cases g
  · cases g
def gPopAt (ds : List D) (as : List D) : Option (D × List D) := match as with
  | [.int i] => if -(2 ^ 63) ≤ i ∧ i < 2 ^ 63 then (match seqIndex? i ds.length with
    | some k => (match ds[k]? with
      | some y => some (y, ds.eraseIdx k)
      | none => none)
    | none => none) else none
  | _ => none
theorem dmt_popAt : MtR X "list.pop" (rM X.K gPopAt) := mtr_wk (r := rPopAt) mt_popAt fun x vs H Q ⟨S, a, xs, ds, ads, ret, ds', e, h, m, r, ra, g, q⟩ => by
  unfold gPopAt at g
  split at g
  · split at g
    · rename_i hl
      split at g
      · rename_i k ek
        split at g
        · rename_i y ey
          cases g
          cases ra with
          | cons r1 r2 =>
            cases r2; cases r1
            obtain ⟨v, ev, rv⟩ := r.get ey
            exact ⟨a, xs, _, k, v, e, rfl, h, hl.1, hl.2, by rw [r.length]; exact ek, ev, q _ _ rv (r.eraseIdx k)⟩
        · cases g
      · cases g
    · cases g
  · cases g
def gPop (ds : List D) (as : List D) : Option (D × List D) := match as with
  | [] => (match ds[ds.length - 1]? with
    | some y => some (y, ds.dropLast)
    | none => none)
  | _ => none
theorem RepA.dropLast {K : Fr8} {S : Hp} {vs : List V} {ds : List D} (r : RepA K S vs ds) : RepA K S vs.dropLast ds.dropLast := by
  rw [List.dropLast_eq_take, List.dropLast_eq_take, r.length]
  exact r.take _
theorem dmt_pop : MtR X "list.pop" (rM X.K gPop) := mtr_wk (r := rPop) mt_pop fun x vs H Q ⟨S, a, xs, ds, ads, ret, ds', e, h, m, r, ra, g, q⟩ => by
  unfold gPop at g
  split at g
  · split at g
    · rename_i y ey
      cases g
      cases ra
      obtain ⟨v, ev, rv⟩ := r.get ey
      exact ⟨a, xs, v, e, rfl, h, by rw [r.length]; exact ev, q _ _ rv r.dropLast⟩
    · cases g
  · cases g
/-! methods of shared tuples -/
def fBmT (g : D → List D → Option D) (fo : FE) (fl : FL) : FE := fun ρ => ob2 (fo ρ) fun d ρ1 => match d with
  | .tuple xs => ob2 (fl ρ1) fun ds ρ2 => wth (g (.tuple xs) ds) ρ2
  | _ => none
theorem PlT.obj {K : Fr8} {pins : List (Addr × Obj)} {σ : SL} {H S : Hp} {s : Shared} {a : Addr} {xs : List V} (I : Inv X pins σ H s) (m : Same S H) (h : PlT X.K S a xs) : ∃ ob, s.heap.get? a = some ob ∧ ob.dict = none := by
  rcases h with ⟨o, h, d⟩ | ⟨o, its, n, h1, h2, h3, _⟩
  · exact ⟨o, (I.hok _ _ (m _ _ h)).1, d⟩
  · exact ⟨o, I.kIn a o h1, h3⟩
theorem de_bmT {g : D → List D → Option D} {fo : FE} {fl : FL} (pa : PlainAttrs "tuple") (slot : Slot "tuple" name id) (hty : typeOf (.builtin id) = pure (.type "method_descriptor")) (hm : MtR X id (rDm X.K g)) (ho : PE X o (dE X.K fo)) (ha : PA X (e :: es) (dA X.K fl))
    (hbase : attributeBase o name X.env (eval o X.env) = eval o X.env := by rfl)
    (hfew : ((backTo cpos (starEach (e :: es) X.env)).all (fun x => !x.1) && (backToKw cpos (keywordEach [] X.env)).all (fun x => x.1.isSome)
      && decide ((e :: es).length + ([] : List Keyword).length + (if ([] : List Keyword).isEmpty then 0 else 1) < 30)) = true := by rfl)
    (hline : (apos.endLine == cpos.line) = true := by rfl) (hs : starEach (e :: es) X.env = (false, eval e X.env) :: starEach es X.env := by rfl) (hplain : (backTo cpos (starEach es X.env)).any (·.1) = false := by rfl) :
    PE X (.Call (.Attribute o name apos) (e :: es) [] cpos) (dE X.K (fBmT g fo fl)) := ⟨fun pins s σ H Q I ⟨a0, B, S0, S, ρ, d, ρ', R, f, q⟩ => by
  obtain ⟨dd, ρ1, e1, f⟩ := ob2_some f
  split at f
  case h_2 => cases f
  rename_i xs
  obtain ⟨ds, ρ2, e2, f⟩ := ob2_some f
  obtain ⟨e3, rfl⟩ := wth_some f
  refine wpAny_Call_method_late hbase hfew hline rfl (thn (ho.run pins s σ H (fun v H1 => ∃ S1, Same S S1 ∧ Rl X.K a0 B S0 σ H1 S1 ρ1 ∧ Rep X.K S1 v (.tuple xs)) I ⟨a0, B, S0, S, ρ, _, ρ1, R, e1, fun v H1 S1 m1 R1 r1 => ⟨S1, m1, R1, r1⟩⟩) fun v s1 ⟨x, H1, I1, r1, S1, m1, R1, rx⟩ => ?_)
  cases rx with
  | tup hp ra =>
    cases r1
    obtain ⟨its, rr, pl, hz⟩ := I1.tuple (sqT_mono R1.sh hp.sq)
    obtain ⟨ob, eo, hd⟩ := PlT.obj (K := X.K) I1 R1.sh hp
    refine ⟨"tuple", id, pa, slot, hty, pl.typeIs, fun b eb => by cases eb; exact ⟨ob, eo, hd⟩, ?_⟩
    have hA := ha.run cpos pins s1 σ H1 (fun vs H2 => ∃ S2, Same S1 S2 ∧ Rl X.K a0 B S0 σ H2 S2 _ ∧ RepA X.K S2 vs ds) I1 ⟨a0, B, S0, S1, ρ1, ds, _, R1, e2, fun vs H2 S2 m2 R2 r2 => ⟨S2, m2, R2, r2⟩⟩
    rw [hs] at hA ⊢
    refine Calls.callWith_builtin (by show (false || (backTo cpos (starEach es X.env)).any (·.1)) = false; rw [hplain] <;> rfl) (Calls.evalArgs_plain ?_)
    exact thn hA fun us s2 ⟨vs, H2, I2, r2, S2, m2, R2, ra2⟩ => hm pins s2 σ H2 (.ref _) vs _ us Q I2 rfl r2 ⟨S2, _, ds, d, R2.sh, (Rep.tup hp ra).mono m2, ra2, e3, Gv.go R2 (m1.trans m2) q⟩⟩
def gIndex (d : D) (as : List D) : Option D := match d, as with
  | .tuple ds, [.int i] => (match intsOf ds with
    | some ns => if i ∈ ns then some (.int (ns.idxOf i : Nat)) else none
    | none => none)
  | _, _ => none
theorem dmt_index : MtR X "tuple.index" (rDm X.K gIndex) := fun pins s σ H x vs v us Q I rx rs ⟨S, dx, ds, d, m, h1, h2, g, gv⟩ => by
  unfold gIndex at g
  split at g
  · split at g
    · rename_i ns en
      split at g
      · rename_i hmem
        cases g
        have en := intsOf_some en
        subst en
        cases h1 with
        | tup hp ra =>
          cases rx
          have hq := sqT_mono m hp.sq
          rw [ra.ints_of] at hq
          obtain ⟨its, rr, pl, hz⟩ := I.tuple hq
          cases h2 with
          | cons r1 r2 =>
            cases r2; cases r1
            obtain ⟨u, rfl, t, rfl⟩ := vals1 rs
            exact PySem.SeqAt.tuple_index_ints pl (Vals.ints rr) hmem ⟨.int _, H, I.tok _, ⟨_, rfl⟩, gv.1 _ (.int _)⟩
      · cases g
    · cases g
  · cases g

/-! t[::-1], xs[::-1] -/
def tRevT (K : Fr8) (te : TE) : TE := fun σ H Q => te σ H fun x H1 => ∃ a xs, x = .ref a ∧ SqT K H1 a xs ∧ NewT H1 xs.reverse Q
theorem pe_revT {te : TE} {k : Nat} {p1 p2 p3 : Pos} (he : PE X e te) : PE X (.Subscript e (.Slice none none (some (.UnaryOp .USub (.Constant (.int 1) k p1) p2)) p3) pos) (tRevT X.K te) := by
  refine ⟨fun pins s σ H Q I h => ?_⟩
  refine Subscript_ (thn (he.run pins s σ H _ I h) fun v s1 ⟨x, H1, I1, r1, a, xs, ex, hx, q⟩ => ?_)
  subst ex
  cases r1
  have hst : PO X (some (.UnaryOp .USub (.Constant (.int 1) k p1) p2)) (tPart (tUn (rU fun i => .int (-i)) (tC (.int 1)))) := po_some (pe_un un_neg pe_int)
  refine wpAny_Slice (thn (po_none.run pins s1 σ H1 (fun o H2 => o = none ∧ H2 = H1) I1 ⟨rfl, rfl⟩) fun vl s2 ⟨l, H2, I2, pl, el, e2⟩ => ?_)
  subst el e2
  refine thn (po_none.run pins s2 σ H2 (fun o H3 => o = none ∧ H3 = H2) I2 ⟨rfl, rfl⟩) fun vu s3 ⟨u, H3, I3, pu, eu, e3⟩ => ?_
  subst eu e3
  refine thn (hst.run pins s3 σ H3 (fun o H4 => o = some (-1) ∧ H4 = H3) I3 ⟨1, rfl, -1, rfl, rfl, rfl⟩) fun vs s4 ⟨o, H4, I4, ps, eo, e4⟩ => ?_
  subst eo e4
  have I5 : Inv X pins σ H4 { s4 with heap := s4.heap.push { cls := .type "slice", data := .fields #[vl, vu, vs] } } := I4.kept (t' := s4.toks) fun b ob q => Heap.get?_push_of_some _ q
  obtain ⟨its, r, ht, hz⟩ := I5.tuple hx
  have hln := r.length
  have evl : vl = .none := by cases pl; rfl
  have evu : vu = .none := by cases pu; rfl
  subst evl evu
  show wpAny (model X.prog X.w) X.A (subscriptTail e (.Slice none none (some (.UnaryOp .USub (.Constant (.int 1) k p1) p2)) p3) (.ref a) (.ref s4.heap.objs.size)) (EP X pins σ Q) X.xe { s4 with heap := s4.heap.push { cls := .type "slice", data := .fields #[.none, .none, vs] } }
  refine tail_any (ops := [.ref a, .ref s4.heap.objs.size]) ht.typeIs (PyProof.Rows.slot_tuple_getitem.lookup) ?_ (by with_unfolding_all rfl)
  refine getItem_tuple_back ht (Heap.IsSliceOf.new _ .none .none vs) ps ?_ (by rw [List.size_toArray]; omega)
  exact ⟨.ref _, _, inv_layT (its := its.reverse) (tk := s4.toks) I5 (fun b ob q => Heap.get?_push_of_some _ q) (Nat.le_refl _) r.reverse (by rw [List.length_reverse]; exact hz) (Heap.get?_push_size _ rfl), rfl, q _ _ (I5.hok.fresh (Nat.le_refl _)) rfl⟩
def fRev (f : FE) : FE := fun ρ => ob2 (f ρ) fun d ρ1 => match d with
  | .tuple ds => some (.tuple ds.reverse, ρ1)
  | .list ds => some (.list ds.reverse, ρ1)
  | _ => none
theorem de_rev {f : FE} {k : Nat} {p1 p2 p3 : Pos} (he : PE X e (dE X.K f)) : PE X (.Subscript e (.Slice none none (some (.UnaryOp .USub (.Constant (.int 1) k p1) p2)) p3) pos) (dE X.K (fRev f)) := ⟨fun pins s σ H Q I ⟨a0, B, S0, S, ρ, d, ρ', R, f, q⟩ => by
  obtain ⟨dd, ρ1, e1, f⟩ := ob2_some f
  split at f
  · rename_i ds
    cases f
    refine (pe_revT he).run pins s σ H Q I ⟨a0, B, S0, S, ρ, _, _, R, e1, fun v H1 S1 m1 R1 r1 => ?_⟩
    cases r1 with
    | tup hp ra => exact ⟨_, _, rfl, sqT_mono R1.sh hp.sq, gv_newT R1.sh (Gv.go R1 m1 q) ra.reverse⟩
  · rename_i ds
    cases f
    refine (pe_revL he).run pins s σ H Q I ⟨a0, B, S0, S, ρ, _, _, R, e1, fun v H1 S1 m1 R1 r1 => ?_⟩
    cases r1 with
    | lst hp ra => exact ⟨_, _, rfl, .inl (.inl (R1.sh _ _ hp)), fun p hq => (Gv.go R1 m1 q).2 p _ hq (rep_lst_up R1.sh hq ra.reverse)⟩
  · cases f⟩
/-- of an owned list: a new shared list -/
def fRevO (k : Nat) : FE := fun ρ => match ρ[k]? with
  | some (.ow (.lst ds)) => some (.list ds.reverse, ρ)
  | _ => none
theorem de_revO {k : Nat} {kk : Nat} {p1 p2 p3 : Pos} (he : PE X e (tVar k)) : PE X (.Subscript e (.Slice none none (some (.UnaryOp .USub (.Constant (.int 1) kk p1) p2)) p3) pos) (dE X.K (fRevO k)) := pe_wk (pe_revL he) fun σ H Q ⟨a0, B, S0, S, ρ, d, ρ', R, f, q⟩ => by
  unfold fRevO at f
  split at f
  · rename_i ds hk
    cases f
    obtain ⟨aa, ff, e2, ob, _⟩ := R.change hk
    obtain ⟨_, xs, ex, ra⟩ := ob
    exact ⟨_, e2, _, _, rfl, .inl (.inl ex), fun p hq => (Gv.go R (Same.refl _) q).2 p _ hq (rep_lst_up R.sh hq ra.reverse)⟩
  · cases f
/-- a slice of an owned list -/
def fSlO (k : Nat) (fl fh : FP) : FE := fun ρ => match ρ[k]? with
  | some (.ow (.lst _)) => ob2 (fl ρ) fun lo ρ1 => ob2 (fh ρ1) fun hi ρ2 => (match ρ2[k]? with
    | some (.ow (.lst ds)) => some (.list (cutD ds lo hi), ρ2)
    | _ => none)
  | _ => none
theorem de_slO {k : Nat} {lo hi : Option Expr} {fl fh : FP} {p2 : Pos} (he : PE X e (tVar k)) (hl : PO X lo (dP X.K fl)) (hh : PO X hi (dP X.K fh)) : PE X (.Subscript e (.Slice lo hi none p2) pos) (dE X.K (fSlO k fl fh)) :=
  pe_wk (pe_slice sl_list he hl hh) fun σ H Q ⟨a0, B, S0, S, ρ, d, ρ', R, f, q⟩ => by
    unfold fSlO at f
    split at f
    case h_2 => cases f
    rename_i ds0 hk0
    obtain ⟨aa, f0, e0, _⟩ := R.change hk0
    obtain ⟨l, ρ1, e1, f⟩ := ob2_some f
    obtain ⟨h, ρ2, e2, f⟩ := ob2_some f
    split at f
    case h_2 => cases f
    rename_i ds hk
    cases f
    refine ⟨_, e0, a0, B, S0, S, ρ, l, ρ1, R, e1, fun H1 S1 m1 R1 => ?_⟩
    refine ⟨a0, B, S0, S1, ρ1, h, _, R1, e2, fun H2 S2 m2 R2 => ?_⟩
    obtain ⟨a2, ff, e3, ob, _⟩ := R2.change hk
    rw [e0] at e3; cases e3
    obtain ⟨_, xs, ex, ra⟩ := ob
    exact ⟨_, _, rfl, .inl (.inl ex), fun p hq => (Gv.go R2 (m1.trans m2) q).2 p _ hq (rep_lst_up R2.sh hq (ra.cut l h))⟩

/-! ### dicts whose keys are ints and texts -/
def keyOf : D → Option Key
  | .int i => some (.inl i)
  | .str x => some (.inr x)
  | _ => none
def keyD : Key → D
  | .inl i => .int i
  | .inr x => .str x
theorem keyOf_rep {K : Fr8} {S : Hp} {v : V} {d : D} {k : Key} (h : keyOf d = some k) (r : Rep K S v d) : v = kV k := by
  cases r <;> cases h <;> rfl
def kput {κ : Type} [DecidableEq κ] (kvs : List (κ × D)) (k : κ) (v : D) : List (κ × D) :=
  if (kvs.any fun kv => decide (kv.1 = k)) = true then kvs.map (fun kv => if kv.1 = k then (kv.1, v) else kv) else kvs ++ [(k, v)]
theorem any_keys {κ : Type} [DecidableEq κ] {k : κ} : ∀ {us : List (κ × V)} {kvs : List (κ × D)}, us.map (·.1) = kvs.map (·.1) → (us.any fun kv => decide (kv.1 = k)) = (kvs.any fun kv => decide (kv.1 = k))
  | [], [], _ => rfl
  | [], _ :: _, h => by cases h
  | _ :: _, [], h => by cases h
  | u :: us, w :: kvs, h => by
    injection h with h1 h2
    have h1 : u.1 = w.1 := h1
    rw [List.any_cons, List.any_cons, any_keys h2, h1]
theorem kput_rel {K : Fr8} {S : Hp} {κ : Type} [DecidableEq κ] {k : κ} {v : V} {d : D} (r : Rep K S v d) {us : List (κ × V)} {kvs : List (κ × D)} (h1 : us.map (·.1) = kvs.map (·.1)) (h2 : RepA K S (us.map (·.2)) (kvs.map (·.2))) :
    (putK us k v).map (·.1) = (kput kvs k d).map (·.1) ∧ RepA K S ((putK us k v).map (·.2)) ((kput kvs k d).map (·.2)) := by
  unfold putK kput
  rw [any_keys h1]
  split
  · rename_i hx
    clear hx
    induction us generalizing kvs with
    | nil =>
      cases kvs with
      | nil => exact ⟨rfl, .nil⟩
      | cons w kvs => cases h1
    | cons u us ih =>
      cases kvs with
      | nil => cases h1
      | cons w kvs =>
        injection h1 with e1 e2
        have e1 : u.1 = w.1 := e1
        cases h2 with
        | cons r1 r2 =>
          obtain ⟨i1, i2⟩ := ih e2 r2
          by_cases hk : w.1 = k
          · simp only [List.map_cons, e1, if_pos hk]
            exact ⟨by rw [i1], .cons r i2⟩
          · simp only [List.map_cons, e1, if_neg hk]
            exact ⟨by rw [i1], .cons r1 i2⟩
  · constructor
    · rw [List.map_append, List.map_append, h1]; rfl
    · rw [List.map_append, List.map_append]; exact h2.append (.cons r .nil)
def fD0 : FO := fun ρ => some (.dK [], ρ)
theorem do_d0 : PE X (.Dict [] [] pos) (dO X.K fD0) := pe_wk pe_dnewK fun σ H Q ⟨a0, B, S0, S, ρ, d, ρ', R, f, q⟩ => by
  cases f
  exact fun p hp => q _ _ _ (Same.refl _) (R.own (o := .dK []) (u := .dK []) hp ⟨rfl, [], upd_same, rfl, .nil⟩)
def bDPut (k : Nat) (fk fv : FE) : FS := fun ρ => ob2 (fv ρ) fun v ρ1 => match ρ1[k]? with
  | some (.ow (.dK _)) => ob2 (fk ρ1) fun y ρ2 => (match ρ2[k]?, keyOf y with
    | some (.ow (.dK kvs)), some kk => if kvs.length < 1000000 then some (.nx (ρ2.set k (.ow (.dK (kput kvs kk v))))) else none
    | _, _ => none)
  | _ => none
theorem ds_dput {st : Stmt} {k : Nat} {fk fv : FE} (h : PS X st (sDPut (tVar k) (dE X.K fk) (dE X.K fv))) : PS X st (dS X.K (bDPut k fk fv)) := ps_wk h fun E σ H ⟨a0, B, S0, S, ρ, r, R, f, q⟩ => by
  obtain ⟨v, ρ1, e1, f⟩ := ob2_some f
  split at f
  case h_2 => cases f
  rename_i kv0 hk0
  obtain ⟨y, ρ2, e2, f⟩ := ob2_some f
  split at f
  case h_2 => cases f
  rename_i kvs kk hk hy
  split at f
  case isFalse => cases f
  rename_i hl
  cases f
  refine ⟨a0, B, S0, S, ρ, v, ρ1, R, e1, fun vv H1 S1 m1 R1 r1 => ?_⟩
  obtain ⟨aa, _, e0, _⟩ := R1.change hk0
  refine ⟨_, e0, a0, B, S0, S1, ρ1, y, ρ2, R1, e2, fun vy H2 S2 m2 R2 r2 => ?_⟩
  obtain ⟨a2, ff, e3, ob, nf, back⟩ := R2.change hk
  rw [e0] at e3; cases e3
  obtain ⟨rfl, us, eu, k1, k2⟩ := ob
  have ek := keyOf_rep hy r2
  subst ek
  obtain ⟨g1, g2⟩ := kput_rel (k := kk) (r1.mono m2) k1 k2
  have hl2 : us.length = kvs.length := by have := congrArg List.length k1; simpa using this
  refine ⟨aa, _, rfl, DPut.k eu (by rw [hl2]; exact lt_l6 hl), q σ _ S2 (m1.trans m2) ?_⟩
  exact back _ (.dK _) [aa] ⟨rfl, _, upd_same, g1, g2⟩ (fun b hb _ => by rw [upd_ne (by simpa using hb)]) (fun b hb => .inl hb)
/-- dict([(k, v), ..]) -/
def pairsOf : List D → Option (List (Key × D))
  | [] => some []
  | .tuple [kd, v] :: r => (match keyOf kd, pairsOf r with
    | some k, some kvs => some ((k, v) :: kvs)
    | _, _ => none)
  | _ :: _ => none
def kmerge (kvs more : List (Key × D)) : List (Key × D) := more.foldl (fun acc kv => kput acc kv.1 kv.2) kvs
def gDictP : List D → Option (List (Key × D))
  | [.list ds] => (match pairsOf ds with
    | some kvs => some (kmerge [] kvs)
    | none => none)
  | _ => none
theorem kmerge_rel {K : Fr8} {S : Hp} : ∀ {more : List (Key × D)} {mus : List (Key × V)} {us : List (Key × V)} {kvs : List (Key × D)}, mus.map (·.1) = more.map (·.1) → RepA K S (mus.map (·.2)) (more.map (·.2)) → us.map (·.1) = kvs.map (·.1) → RepA K S (us.map (·.2)) (kvs.map (·.2)) →
    (mergeK us mus).map (·.1) = (kmerge kvs more).map (·.1) ∧ RepA K S ((mergeK us mus).map (·.2)) ((kmerge kvs more).map (·.2))
  | [], [], us, kvs, _, _, h1, h2 => ⟨h1, h2⟩
  | [], _ :: _, _, _, h, _, _, _ => by cases h
  | _ :: _, [], _, _, h, _, _, _ => by cases h
  | m :: more, u :: mus, us, kvs, h, r, h1, h2 => by
    injection h with e1 e2
    have e1 : u.1 = m.1 := e1
    cases r with
    | cons r1 r2 =>
      obtain ⟨g1, g2⟩ := kput_rel (k := u.1) r1 h1 h2
      have := kmerge_rel (more := more) (mus := mus) e2 r2 g1 g2
      unfold mergeK kmerge at this ⊢
      rw [List.foldl_cons, List.foldl_cons, ← e1]
      exact this
theorem pairs_rel {K : Fr8} {S H : Hp} (m : Same S H) : ∀ {ds : List D} {kvs : List (Key × D)} {xs : List V}, pairsOf ds = some kvs → RepA K S xs ds → ∃ (ps : List Addr) (us : List (Key × V)), xs = ps.map V.ref ∧ Paired (fun p kv => SqT K H p [kV kv.1, kv.2]) ps us ∧ us.map (·.1) = kvs.map (·.1) ∧ RepA K S (us.map (·.2)) (kvs.map (·.2))
  | [], kvs, xs, h, r => by cases h; cases r; exact ⟨[], [], rfl, .nil, rfl, .nil⟩
  | d :: ds, kvs, xs, h, r => by
    unfold pairsOf at h
    split at h
    · rename_i e; cases e
    · rename_i kd v rr e
      cases e
      split at h
      · rename_i k kvs' hk hr
        cases h
        cases r with
        | cons r1 r2 =>
          cases r1 with
          | tup hp ra =>
            cases ra with
            | cons a1 a2 =>
              cases a2 with
              | cons a2 a3 =>
                cases a3
                obtain ⟨ps, us, e1, e2, e3, e4⟩ := pairs_rel m hr r2
                have ek := keyOf_rep hk a1
                subst ek
                rename_i aa vv
                refine ⟨_ :: ps, (k, _) :: us, by rw [e1]; rfl, .cons (sqT_mono m hp.sq) e2, by simp [e3], .cons a2 e4⟩
      · cases h
    · cases h
def fDictO (fl : FL) : FO := fun ρ => ob2 (fl ρ) fun ds ρ1 => match gDictP ds with
  | some kvs => some (.dK kvs, ρ1)
  | none => none
theorem do_dictP {fl : FL} (hc : X.calm = true) (hg : Gl X "dict") (hm : X.mg "dict" = none) (ha : PA X (e :: es) (dA X.K fl))
    (he : starEach (e :: es) X.env = (false, eval e X.env) :: starEach es X.env := by rfl) (hpl : (backTo pos (starEach es X.env)).any (·.1) = false := by rfl) : PE X (.Call (.Name "dict" p) (e :: es) [] pos) (dO X.K (fDictO fl)) :=
  pe_wk (pe_callTy (call_dictP hc) hg hm (by decide +kernel) ha (by decide) (by decide) he hpl) fun σ H Q ⟨a0, B, S0, S, ρ, d, ρ', R, f, q⟩ => by
    obtain ⟨ds, ρ1, e1, f⟩ := ob2_some f
    split at f
    · rename_i kvs ek
      cases f
      refine ⟨a0, B, S0, S, ρ, ds, _, R, e1, fun vs H1 S1 m1 R1 r1 => ?_⟩
      unfold gDictP at ek
      split at ek
      · split at ek
        · rename_i kv2 ep
          cases ek
          cases r1 with
          | cons r1 r2 =>
            cases r2
            cases r1 with
            | lst hp ra =>
              obtain ⟨ps, us, e2, e3, e4, e5⟩ := pairs_rel R1.sh ep ra
              subst e2
              obtain ⟨g1, g2⟩ := kmerge_rel e4 e5 (us := []) (kvs := []) rfl .nil
              exact ⟨_, ps, us, rfl, .inl (.inl (R1.sh _ _ hp)), e3, fun p hq => q _ _ _ m1 (R1.own (o := .dK (kmerge [] kv2)) (u := .dK (mergeK [] us)) hq ⟨rfl, _, upd_same, g1, g2⟩)⟩
        · cases ek
      · cases ek
    · cases f
/-! ### sorted of ints -/
def isort (ns : List Int) : List Int := ns.mergeSort fun a b => decide (a ≤ b)
theorem isort_perm (ns : List Int) : (isort ns).Perm ns := List.mergeSort_perm ns _
theorem isort_pw (ns : List Int) : (isort ns).Pairwise (· ≤ ·) := by
  have h := List.pairwise_mergeSort (le := fun a b : Int => decide (a ≤ b)) (fun a b c h1 h2 => by simp at *; omega) (fun a b => by simp; omega) ns
  exact h.imp fun h => by simpa using h
theorem isort_uniq {ys ns : List Int} (hp : ys.Perm ns) (hs : ys.Pairwise (· ≤ ·)) : ys = isort ns :=
  List.Perm.eq_of_pairwise (fun x y _ _ h1 h2 => Int.le_antisymm h1 h2) hs (isort_pw ns) (hp.trans (isort_perm ns).symm)
def intKeys : List (Key × D) → Option (List Int)
  | [] => some []
  | (.inl i, _) :: r => (match intKeys r with
    | some ns => some (i :: ns)
    | none => none)
  | (.inr _, _) :: _ => none
theorem intKeys_some : ∀ {kvs : List (Key × D)} {ns : List Int}, intKeys kvs = some ns → kvs.map (·.1) = ns.map Sum.inl
  | [], ns, h => by cases h; rfl
  | (.inl i, d) :: r, ns, h => by
    unfold intKeys at h
    split at h
    · rename_i ms e
      cases h
      simp [intKeys_some e]
    · cases h
  | (.inr x, d) :: r, ns, h => by cases h
def gSortD (o : Ob) : Option (List D) := match o with
  | .dK kvs => (match intKeys kvs with
    | some ns => if ns.length < 64 then some ((isort ns).map PyData.int) else none
    | none => none)
  | _ => none
def fSortO (f : FO) : FO := fun ρ => ob2 (f ρ) fun o ρ1 => match gSortD o with
  | some ds => some (.lst ds, ρ1)
  | none => none
theorem do_sortO {f : FO} (hc : X.calm = true) (hg : Gl X "sorted") (hm : X.mg "sorted" = none) (ha : PE X e (dO X.K f))
    (he : starEach [e] X.env = (false, eval e X.env) :: starEach [] X.env := by rfl) (hpl : (backTo pos (starEach [] X.env)).any (·.1) = false := by rfl) : PE X (.Call (.Name "sorted" p) [e] [] pos) (dO X.K (fSortO f)) :=
  pe_wk (pe_callB (call_sortedDI hc) hg hm (by decide +kernel) (pa_cons ha pa_nil he) (by decide) (by decide) he hpl) fun σ H Q ⟨a0, B, S0, S, ρ, d, ρ', R, f, q⟩ => by
    obtain ⟨o, ρ1, e1, f⟩ := ob2_some f
    split at f
    · rename_i ds eg
      cases f
      refine ⟨a0, B, S0, S, ρ, o, _, R, e1, fun v H1 S1 m1 R1 => ?_⟩
      unfold gSortD at eg
      split at eg
      · rename_i kvs
        split at eg
        · rename_i ns en
          split at eg
          · rename_i hl
            cases eg
            obtain ⟨ft, h1, h2, h3⟩ := R1.ex
            obtain ⟨aa, ea, ob⟩ := h1 0
            cases ea
            obtain ⟨_, us, eu, k1, k2⟩ := ob
            refine ⟨aa, us, ns, rfl, .inl eu, by rw [k1, intKeys_some en], hl, fun ys p hp hs hq => ?_⟩
            rw [isort_uniq hp hs]
            refine q _ _ _ m1 ?_
            have R2 := R1.own (o := .lst ((isort ns).map PyData.int)) (u := .lst ((isort ns).map V.int)) hq ⟨rfl, _, upd_same, RepA.ints _⟩
            exact R2.swap.pop
          · cases eg
        · cases eg
      · cases eg
    · cases f
/-- of an owned dict that stays -/
def fSortK (k : Nat) : FO := fun ρ => match ρ[k]? with
  | some (.ow o) => (match gSortD o with
    | some ds => some (.lst ds, ρ)
    | none => none)
  | _ => none
theorem do_sortK {k : Nat} (hc : X.calm = true) (hg : Gl X "sorted") (hm : X.mg "sorted" = none) (ha : PE X e (tVar k))
    (he : starEach [e] X.env = (false, eval e X.env) :: starEach [] X.env := by rfl) (hpl : (backTo pos (starEach [] X.env)).any (·.1) = false := by rfl) : PE X (.Call (.Name "sorted" p) [e] [] pos) (dO X.K (fSortK k)) :=
  pe_wk (pe_callB (call_sortedDI hc) hg hm (by decide +kernel) (pa_cons ha pa_nil he) (by decide) (by decide) he hpl) fun σ H Q ⟨a0, B, S0, S, ρ, d, ρ', R, f, q⟩ => by
    unfold fSortK at f
    split at f
    case h_2 => cases f
    rename_i o hk
    split at f
    · rename_i ds eg
      cases f
      unfold gSortD at eg
      split at eg
      · rename_i kvs
        split at eg
        · rename_i ns en
          split at eg
          · rename_i hl
            cases eg
            obtain ⟨aa, ff, ea, ob, _⟩ := R.change hk
            obtain ⟨_, us, eu, k1, k2⟩ := ob
            refine ⟨_, ea, aa, us, ns, rfl, .inl eu, by rw [k1, intKeys_some en], hl, fun ys p hp hs hq => ?_⟩
            rw [isort_uniq hp hs]
            exact q _ _ _ (Same.refl _) (R.own (o := .lst ((isort ns).map PyData.int)) (u := .lst ((isort ns).map V.int)) hq ⟨rfl, _, upd_same, RepA.ints _⟩)
          · cases eg
        · cases eg
      · cases eg
    · cases f
end
end DL

set_option Elab.async false
set_option linter.all false
set_option maxRecDepth 100000
set_option maxHeartbeats 4000000
/-! DL, part j: the script and the well. -/
namespace DL
open PySem PySem.Spec PyProof.Rows L2
/-! what a draw gives, and what is left in the well -/
def drawV (cells : List Int) (s c many : Int) : Int := match cells with
  | x :: _ => x.fmod many
  | [] =>
    let f1 := (s + 2654435761 * (c + 1)).fmod 4294967291
    let f2 := (f1 * f1 + 40503 * (c + 1) + 7).fmod 4294967279
    let f3 := (f2 * f2 + s).fmod 4294967231
    (f3.fdiv 128).fmod many
def drawW (cells : List Int) (s c many : Int) : Ob := match cells with
  | x :: r => if x < many then .well r s c else .well (x.fdiv many :: r) s c
  | [] => .well [] s (c + 1)
def Fdraw : SF := fun avs => match avs with
  | [.pa (.well cells s c), .sh (.int many)] => if 1 ≤ many ∧ many < 1073741824 then some (.sh (.int (drawV cells s c many)), .pa (drawW cells s c many)) else none
  | _ => none
theorem fmod_pos (x : Int) {m : Int} (h : 1 ≤ m) : 0 ≤ x.fmod m ∧ x.fmod m < m := by
  rw [Int.fmod_eq_emod_of_nonneg x (by omega)]
  exact ⟨Int.emod_nonneg x (by omega), Int.emod_lt_of_pos x (by omega)⟩
theorem drawV_in (cells : List Int) (s c : Int) {many : Int} (h : 1 ≤ many) : 0 ≤ drawV cells s c many ∧ drawV cells s c many < many := by
  cases cells with
  | nil => exact fmod_pos _ h
  | cons x r => exact fmod_pos _ h
theorem drawW_well (cells : List Int) (s c many : Int) : ∃ cells' s' c', drawW cells s c many = .well cells' s' c' := by
  cases cells with
  | nil => exact ⟨_, _, _, rfl⟩
  | cons x r =>
    by_cases h : x < many
    · exact ⟨_, _, _, if_pos h⟩
    · exact ⟨_, _, _, if_neg h⟩
theorem dpA_ints {K : Fr8} {H : Hp} : ∀ ns : List Int, DpAll K H (ns.map V.int) (ns.map PyData.int)
  | [] => .nil
  | n :: ns => .cons (.int n) (dpA_ints ns)
theorem ints_shaped (ns : List Int) : SeqAt.shaped (.list (ns.map PyData.int)) = true := by
  have h1 : ∀ ns : List Int, PyData.canLayAll0 (ns.map PyData.int) = true := by
    intro ns
    induction ns with
    | nil => rfl
    | cons n ns ih => rw [List.map_cons, PyData.canLayAll0, ih]; rfl
  unfold SeqAt.shaped
  rw [PyData.canLay0, h1 ns, PyData.depth, depth_ints]
  rfl
theorem lenN {ρ ρ' : En} {ds : List D} (h : fNil ρ = some (ds, ρ')) : ds.length = 0 := by cases h; rfl
theorem lenC {fa : FE} {fr : FL} {n : Nat} (h : ∀ ρ ds ρ', fr ρ = some (ds, ρ') → ds.length = n) : ∀ ρ ds ρ', fCons fa fr ρ = some (ds, ρ') → ds.length = n + 1 := fun ρ ds ρ' e => by
  obtain ⟨d, ρ1, e1, e⟩ := ob2_some e
  obtain ⟨es, ρ2, e2, e⟩ := ob2_some e
  cases e
  rw [List.length_cons, h _ _ _ e2]
theorem lenN' : ∀ ρ ds ρ', fNil ρ = some (ds, ρ') → ds.length = 0 := fun _ _ _ h => lenN h
theorem bt_len : bootBuiltins "len" = some (.builtin "len") := by decide +kernel
theorem bt_min : bootBuiltins "min" = some (.builtin "min") := by decide +kernel
theorem bt_max : bootBuiltins "max" = some (.builtin "max") := by decide +kernel
theorem bt_abs : bootBuiltins "abs" = some (.builtin "abs") := by decide +kernel
theorem bt_int : bootBuiltins "int" = some (.type "int") := by decide +kernel
theorem bt_tuple : bootBuiltins "tuple" = some (.type "tuple") := by decide +kernel
theorem bt_list : bootBuiltins "list" = some (.type "list") := by decide +kernel
section
variable {X : Cx} {k : Nat} {f : Addr} {fd : FuncData} {ps : List Str} {F : SF} {x : Str} {p pos : Pos} {e a b : Expr} {es : List Expr}
/-- the script: a slice of it, its length -/
def fSlS (k : Nat) (fl fh : FP) : FE := fun ρ => match ρ[k]? with
  | some (.scr _) => ob2 (fl ρ) fun lo ρ1 => ob2 (fh ρ1) fun hi ρ2 => (match ρ2[k]? with
    | some (.scr ns) => some (.list (cutD (ns.map PyData.int) lo hi), ρ2)
    | _ => none)
  | _ => none
theorem de_slS {k : Nat} {lo hi : Option Expr} {fl fh : FP} {p2 : Pos} (he : PE X e (tVar k)) (hl : PO X lo (dP X.K fl)) (hh : PO X hi (dP X.K fh)) : PE X (.Subscript e (.Slice lo hi none p2) pos) (dE X.K (fSlS k fl fh)) :=
  pe_wk (pe_slice sl_list he hl hh) fun σ H Q ⟨a0, B, S0, S, ρ, d, ρ', R, f, q⟩ => by
    unfold fSlS at f
    split at f
    case h_2 => cases f
    rename_i ns0 hk0
    obtain ⟨aa, e0, _⟩ := R.get_scr hk0
    obtain ⟨l, ρ1, e1, f⟩ := ob2_some f
    obtain ⟨h, ρ2, e2, f⟩ := ob2_some f
    split at f
    case h_2 => cases f
    rename_i ns hk
    cases f
    refine ⟨_, e0, a0, B, S0, S, ρ, l, ρ1, R, e1, fun H1 S1 m1 R1 => ?_⟩
    refine ⟨a0, B, S0, S1, ρ1, h, _, R1, e2, fun H2 S2 m2 R2 => ?_⟩
    obtain ⟨a2, e3, sq⟩ := R2.get_scr hk
    rw [e0] at e3; cases e3
    exact ⟨_, _, rfl, R2.sh.seq sq, fun p hq => (Gv.go R2 (m1.trans m2) q).2 p _ hq (rep_lst_up R2.sh hq ((RepA.ints ns).cut l h))⟩
def fLenS (k : Nat) : FE := fun ρ => match ρ[k]? with
  | some (.scr ns) => some (.int ns.length, ρ)
  | _ => none
theorem de_lenS {k : Nat} (hg : Gl X "len") (hm : X.mg "len" = none) (ha : PE X e (tVar k)) (he : starEach [e] X.env = (false, eval e X.env) :: starEach [] X.env := by rfl) (hpl : (backTo pos (starEach [] X.env)).any (·.1) = false := by rfl) : PE X (.Call (.Name "len" p) [e] [] pos) (dE X.K (fLenS k)) :=
  pe_wk (pe_callB call_len_seq hg hm bt_len (pa_cons ha pa_nil he) (by decide) (by decide) he hpl) fun σ H Q ⟨a0, B, S0, S, ρ, d, ρ', R, f, q⟩ => by
    unfold fLenS at f
    split at f
    · rename_i ns hk
      cases f
      obtain ⟨aa, e0, sq⟩ := R.get_scr hk
      refine ⟨_, e0, aa, _, rfl, .inl (R.sh.seq sq), ?_⟩
      rw [List.length_map]
      exact q _ H S (Same.refl _) R (.int _)
    · cases f
/-- f(script), f hands back what is the caller's from then on -/
def fFnS (F : SF) (k : Nat) : FO := fun ρ => match ρ[k]? with
  | some (.scr ns) => (match F [.scr ns] with
    | some (.ow o, _) => some (o, ρ)
    | _ => none)
  | _ => none
theorem Rl.push_new {K : Fr8} {a0 a1 : Addr} {B S0 S S2 H H2 : Hp} {σ : SL} {ρ : En} {v : V} {o : Ob} {y : SV} {z : Option V} (R : Rl K a0 B S0 σ H S ρ) (R2 : Rl K a1 H S [some v, z] H2 S2 [.ow o, y]) : Rl K a0 B S0 (some v :: σ) H2 S2 (.ow o :: ρ) := by
  have R3 := rl_back R R2
  obtain ⟨ft, h1, h2, h3⟩ := R2.ex
  obtain ⟨a, ea, ob⟩ := h1 0
  cases ea
  refine R3.push_ow ob (fun b hb => ⟨(h3 0 b hb).1, R.bb.free (h3 0 b hb).2⟩) fun gt g1 g2 i b hi hb => ?_
  have hH1 : H b = none := (h3 0 b hb).2
  obtain ⟨gu, k1, k2, k3⟩ := R.ex
  have hs := g1 i
  have hs' := k1 i
  have kk : ∀ c ∈ gu i, H2 c = H c := fun c hc => by
    obtain ⟨u3, e3⟩ := (k1 i).trk c hc
    rw [e3]; exact R2.bb _ _ e3
  rcases hρ : ρ[i]? with _ | (_ | dd | oo | oo | nn)
  · rw [hρ] at hs; rw [show gt i = [] from hs] at hi; simp at hi
  · rw [hρ] at hs; rw [show gt i = [] from hs] at hi; simp at hi
  · rw [hρ] at hs; obtain ⟨z, _⟩ := hs; rw [z] at hi; simp at hi
  · rw [hρ] at hs hs'
    obtain ⟨a1, z1, o1⟩ := hs
    obtain ⟨a2, z2, o2⟩ := hs'
    rw [z1] at z2; cases z2
    obtain ⟨u2, eu2⟩ := o2.trk b (obAt_fun (o2.mono R2.s0 kk) o1 ▸ hi)
    rw [hH1] at eu2; cases eu2
  · rw [hρ] at hs hs'
    obtain ⟨z1, o1⟩ := hs
    obtain ⟨z2, o2⟩ := hs'
    obtain ⟨u2, eu2⟩ := o2.trk b (obAt_fun (o2.mono R2.s0 kk) o1 ▸ hi)
    rw [hH1] at eu2; cases eu2
  · rw [hρ] at hs; obtain ⟨z, _⟩ := hs; rw [z] at hi; simp at hi
theorem do_fnS {j : Nat} (G : FnD X.prog X.w X.K X.mg X.base k f fd ps F) (hgu : X.A.guards = some []) (hr : Room k X.A) (hn : ps.length = 1) (hg : Gl X x) (hm : X.mg x = some (.ref f)) (hk : PySem.W.keepIn X.K (.ref f) = true) (hb : Binds X.K fd ps [])
    (ha : PE X e (tVar j)) (hdb : (x == ("__debug__" : Str)) = false := by decide) (he : starEach [e] X.env = (false, eval e X.env) :: starEach [] X.env := by rfl) (hpl : (backTo pos (starEach [] X.env)).any (·.1) = false := by rfl) :
    PE X (.Call (.Name x p) [e] [] pos) (dO X.K (fFnS F j)) :=
  pe_wk (pe_callG G hgu hr hg hm hk hb pass0 (pa_cons ha pa_nil he) hdb he hpl) fun σ H Q ⟨a0, B, S0, S, ρ, d, ρ', R, f, q⟩ => by
    unfold fFnS at f
    split at f
    · rename_i ns hk
      split at f
      · rename_i o sw e2
        cases f
        obtain ⟨aa, e0, sq⟩ := R.get_scr hk
        refine ⟨_, e0, 0, H, S, [.scr ns], _, _, hn.symm, ⟨Same.refl _, R.sh, Same.refl _, fun b o e => .inl e, rfl, fun _ => [], fun i => ?_, fun i j a hi => by simp at hi, fun i a ha => by simp at ha⟩, e2, fun v H2 S2 m2 R2 => ?_⟩
        · cases i with
          | zero => exact ⟨rfl, aa, rfl, sq⟩
          | succ i => rfl
        · exact q v H2 S2 m2 (R.push_new R2)
      · cases f
    · cases f
/-- [cells, s, c], the well as it is made -/
def fWell (fa : FO) (fb fc : FE) : FO := fun ρ => ob2 (fa ρ) fun o ρ1 => ob2 (fb ρ1) fun y ρ2 => ob2 (fc ρ2) fun z ρ3 => match o, y, z with
  | .lst ds, .int s, .int c => (match intsOf ds with
    | some ns => some (.well ns s c, ρ3)
    | none => none)
  | _, _, _ => none
theorem do_well {c : Expr} {fa : FO} {fb fc : FE} (h1 : PE X a (dO X.K fa)) (h2 : PE X b (dE X.K fb)) (h3 : PE X c (dE X.K fc)) (hs1 : starEach [a, b, c] X.env = (false, eval a X.env) :: starEach [b, c] X.env := by rfl) (hs2 : starEach [b, c] X.env = (false, eval b X.env) :: starEach [c] X.env := by rfl) (hs3 : starEach [c] X.env = (false, eval c X.env) :: starEach [] X.env := by rfl) : PE X (.List [a, b, c] pos) (dO X.K (fWell fa fb fc)) :=
  pe_wk (pe_lst (pa_cons h1 (pa_cons h2 (pa_cons h3 pa_nil hs3) hs2) hs1)) fun σ H Q ⟨a0, B, S0, S, ρ, d, ρ', R, f, q⟩ => by
    obtain ⟨o, ρ1, e1, f1⟩ := ob2_some f
    obtain ⟨y, ρ2, e2, f2⟩ := ob2_some f1
    obtain ⟨z, ρ3, e3, f3⟩ := ob2_some f2
    clear f f1 f2
    split at f3
    case h_2 => cases f3
    rename_i ds s c
    split at f3
    case h_2 => cases f3
    rename_i ns en
    cases f3
    have en := intsOf_some en
    subst en
    refine ⟨a0, B, S0, S, ρ, _, ρ1, R, e1, fun v H1 S1 m1 R1 => ?_⟩
    obtain ⟨B', R1', back⟩ := R1.hold (fun u z => by cases z)
    refine ⟨a0, B', S0, S1, ρ1, _, ρ2, R1', e2, fun u H2 S2 m2 R2 r2 => ?_⟩
    refine ⟨a0, B', S0, S2, ρ2, _, _, R2, e3, fun u3 H3 S3 m3 R3 r3 => ?_⟩
    refine ⟨show 3 ≤ sizeLine by decide, fun p hp => ?_⟩
    have R4 := back _ _ _ _ (m2.trans m3) R3
    cases r2; cases r3
    obtain ⟨ft, g1, g2, g3⟩ := R4.ex
    obtain ⟨aa, ea, ef, xs, ex, ra⟩ := g1 0
    cases ea
    have ra := ra.ints_of
    subst ra
    have R5 := R4.junk hp (.lst [.ref aa, .int s, .int c])
    have np : ∀ i a, a ∈ ft i → a ≠ p := fun i a ha z => by
      obtain ⟨w, e⟩ := (g1 i).trk a ha
      rw [z, hp] at e; cases e
    have naa : aa ≠ p := np 0 aa (by rw [ef]; simp)
    refine q _ _ S3 (m1.trans (m2.trans m3)) ⟨R5.s0, R5.sh, R5.bb, R5.fr, R5.len, fun i => match i with | 0 => [p, aa] | i + 1 => ft (i + 1), fun i => ?_, fun i j a hi hj => ?_, fun i a ha => ?_⟩
    · cases i with
      | zero => exact ⟨p, rfl, aa, rfl, upd_same, by rw [upd_ne naa]; exact ex⟩
      | succ i => exact (g1 (i + 1)).mono (Same.refl _) fun b hb => by rw [upd_ne (np _ b hb)]
    · have key : ∀ i, a ∈ (match i with | 0 => [p, aa] | i + 1 => ft (i + 1) : List Addr) → (a = p ∧ i = 0) ∨ a ∈ ft i := fun i hi => by
        cases i with
        | zero =>
          simp at hi
          rcases hi with z | z
          · exact .inl ⟨z, rfl⟩
          · exact .inr (by rw [ef, z]; simp)
        | succ i => exact .inr hi
      rcases key i hi with ⟨z1, rfl⟩ | z1 <;> rcases key j hj with ⟨z2, rfl⟩ | z2
      · rfl
      · exact absurd z1 (np _ a z2)
      · exact absurd z2 (np _ a z1)
      · exact g2 _ _ a z1 z2
    · cases i with
      | zero =>
        simp at ha
        rcases ha with rfl | rfl
        · exact ⟨R4.sn hp, R4.bb.free hp⟩
        · exact g3 0 a (by rw [ef]; simp)
      | succ i => exact g3 (i + 1) a ha
end
end DL

set_option Elab.async false
set_option linter.all false
set_option maxRecDepth 100000
set_option maxHeartbeats 4000000
/-! DL, part k: two fors in a comprehension; a def by hand. -/
namespace DL
open PySem PySem.Spec PyProof.Rows L2
theorem fng_fun {P : Program} {w : World} {K : Fr8} {mg : Str → Option Value} {base : Heap} {CX : CXT} {x qual : Str} {st : Stmt} {f : Addr} {fd : FuncData} {N ps : List Str} {k : Nat} {sp : Sp} (F : Fun K x qual st f fd) (S : FnScope N ps (defScope st)) (len : ∀ vs H Q E, sp vs H Q E → vs.length = ps.length)
    (hbody : ∀ (cdv : Value) (A : Around) (outer : List Env) (s : Shared) (H : Hp) (vs : List V) (Q : VK) (E : XK), A.guards = some [] → Room k (A.deeper (envOfC qual (defScope st) s.heap.objs.size f cdv)) → sp vs H Q E →
      ∃ t, PSs (cxOf CX P w K mg base N qual (defScope st) f cdv A outer s H E).nox (defBody st) t ∧ t { nx := fun _ H' => Q .non H', rt := Q } (start N vs) H) : FnG P w K mg base CX (k + 1) f fd ps sp := by
  obtain ⟨oc, od, kV, doc, pm, an, cdv, ct, osl, rfl, lk, hcd⟩ := F.ex
  refine fng_of lk hcd S len fun A outer s H vs Q E hgu hr hsp => ?_
  obtain ⟨t, h, q⟩ := hbody cdv A outer s H vs Q E hgu hr hsp
  exact ⟨t, h.nox, q⟩
section
variable {X : Cx} {e : Expr}
/-! [el for t in .. if c for t1 in .. if c1] -/
def lcL2 (t : FG) (c : FT) (fi1 : FL) (t1 : FG) (c1 : FT) (el : FE) (vs vs1 : List Nat) : List D → En → List D → Option (List D × En)
  | [], ρ, acc => some (acc, ρ)
  | d :: ds, ρ, acc => match t d ρ with
    | none => none
    | some ρ1 => ob2 (c ρ1) fun b ρ2 => if b = true then ob2 (fi1 ρ2) fun es ρ3 => (if acc.length + es.length ≤ 1000000 then ob2 (lcL t1 c1 el vs1 es (wipeE ρ3 vs1) acc) fun acc' ρ4 => lcL2 t c fi1 t1 c1 el vs vs1 ds (wipeE ρ4 vs) acc' else none) else lcL2 t c fi1 t1 c1 el vs vs1 ds (wipeE ρ2 vs) acc
def fLc2 (fi : FL) (t : FG) (c : FT) (fi1 : FL) (t1 : FG) (c1 : FT) (el : FE) (vs vs1 : List Nat) : FO := fun ρ => ob2 (fi ρ) fun ds ρ1 => ob2 (lcL2 t c fi1 t1 c1 el vs vs1 ds (wipeE ρ1 vs) []) fun acc ρ2 => some (.lst acc, wipeE ρ2 vs)
theorem wipe_sub {vs vs1 : List Nat} (hv : ∀ i ∈ vs1, i ∈ vs) {σ τ : SL} (h : wipe σ vs1 = wipe τ vs1) : wipe σ vs = wipe τ vs := by
  have hl : σ.length = τ.length := by rw [← wipe_length σ vs1, ← wipe_length τ vs1, h]
  exact kept_wipe (is := vs) (fun i hi => hi) (σ := τ) (σ' := σ) ⟨fun j hj => by
    rw [wipe_get hj, ← wipe_get (σ := σ) (vs := vs1) (fun z => hj (hv j z)), h, wipe_get (fun z => hj (hv j z))], by rw [wipe_length, hl]⟩
theorem tlc2_go {K : Fr8} {is is1 vs vs1 : List Nat} {fi fi1 : FL} {t t1 : FG} {c c1 : FT} {el : FE} (hv : ∀ i ∈ is, i ∈ vs) (hv1 : ∀ i ∈ is1, i ∈ vs1) (hs : ∀ i ∈ vs1, i ∈ vs) {σ : SL} {H : Hp} {Q : VK} (h : dO K (fLc2 fi t c fi1 t1 c1 el vs vs1) σ H Q) :
    tLc2 (dI K fi) (dG K is t) (dT K c) (dI K fi1) (dG K is1 t1) (dT K c1) (dE K el) vs vs1 σ H Q := by
  obtain ⟨a0, B, S0, S, ρ, o, ρ', R, f, q⟩ := h
  obtain ⟨ds, ρ1, e1, f⟩ := ob2_some f
  obtain ⟨acc, ρ2, e2, f⟩ := ob2_some f
  cases f
  refine ⟨a0, B, S0, S, ρ, ds, ρ1, R, e1, fun J H1 S1 m1 R1 it Dd hD => ?_⟩
  have hS0 : S0 Dd = none := R1.s0.free (R1.sn hD)
  have hB : B Dd = none := R1.bb.free hD
  refine ⟨fun i m H => m = ds.length - i ∧ ∃ S2 ρ2' xs a1, Same S1 S2 ∧ Rl K a0 (upd B Dd (.lst xs)) S0 (wipe σ vs) H S2 ρ2' ∧ RepA K S2 xs a1 ∧ lcL2 t c fi1 t1 c1 el vs vs1 (ds.drop i) ρ2' a1 = some (acc, ρ2),
    ⟨ds.length, by simp, S1, wipeE ρ1 vs, [], [], Same.refl _, (R1.frame hD _).rewipe vs (fun i hi => wipe_get hi) (wipe_length _ _), .nil, e2⟩, ?_⟩
  rintro i m H2 ⟨rfl, S2, ρ3, xs, a1, m2, R2, ra, f2⟩
  have itt := it i H2 S2 m2 R2.sh
  cases hd : ds.drop i with
  | nil =>
    rw [hd] at f2
    cases f2
    have hl : ds.length ≤ i := by
      have := congrArg List.length hd
      simp at this; omega
    refine .inl ⟨itt.2 hl, q _ H2 S2 (m1.trans m2) ?_⟩
    have R3 := R2.rewipe vs (σ' := σ) (fun i hi => (wipe_get hi).symm) (wipe_length _ _).symm
    exact R3.unframe hB hS0 (o := .lst acc) ⟨rfl, xs, R3.bb _ _ upd_same, ra⟩
  | cons d rest =>
    obtain ⟨g1, g2, g3⟩ := drop_cons hd
    rw [hd] at f2
    unfold lcL2 at f2
    split at f2
    · cases f2
    · rename_i ρ4 e4
      obtain ⟨bb, ρ5, e5, f2⟩ := ob2_some f2
      have go := itt.1 d g1
      refine .inr ⟨go.1, fun H' => ∃ S' ρ' xs a1, Same S1 S' ∧ Rl K a0 (upd B Dd (.lst xs)) S0 (wipe σ vs) H' S' ρ' ∧ RepA K S' xs a1 ∧ lcL2 t c fi1 t1 c1 el vs vs1 rest ρ' a1 = some (acc, ρ2), fun H' ⟨S', ρ', ys, a2, k1, k2, k3, k5⟩ => ⟨ds.length - (i + 1), by omega, rfl, S', ρ', ys, a2, k1, k2, k3, by rw [g2]; exact k5⟩, fun x H' y => ?_⟩
      obtain ⟨S3, m3, R3, r3⟩ := (go.2 x H' y).go R2
      refine ⟨a0, _, S0, S3, ρ3, d, ρ4, R3, r3, e4, fun σ4 R4 kk => ⟨kept_wipe hv kk, ?_⟩⟩
      have kw := kept_wipe hv kk
      refine ⟨a0, _, S0, S3, ρ4, bb, ρ5, R4, e5, fun H5 S5 m5 R5 => ?_⟩
      cases bb with
      | false =>
        rw [if_neg (by decide)] at f2 ⊢
        refine ⟨S5, wipeE ρ5 vs, xs, a1, m2.trans (m3.trans m5), ?_, ra.mono (m3.trans m5), f2⟩
        have := R5.rewipe vs (σ' := wipe σ4 vs) (fun i hi => wipe_get hi) (wipe_length _ _)
        rw [kw] at this; exact this
      | true =>
        rw [if_pos rfl] at f2 ⊢
        obtain ⟨es, ρ6, e6, f2⟩ := ob2_some f2
        split at f2
        case isFalse => cases f2
        rename_i hsz
        obtain ⟨acc', ρ7, e7, f2⟩ := ob2_some f2
        have ra5 := ra.mono (m3.trans m5)
        refine ⟨a0, _, S0, S5, ρ5, es, ρ6, R5, e6, fun J1 H6 S6 m6 R6 it1 => ?_⟩
        refine ⟨fun j n H => n = es.length - j ∧ ∃ S' ρ' xs a2, Same S6 S' ∧ Rl K a0 (upd B Dd (.lst xs)) S0 (wipe σ4 vs1) H S' ρ' ∧ RepA K S' xs a2 ∧ a2.length ≤ a1.length + j ∧ lcL t1 c1 el vs1 (es.drop j) ρ' a2 = some (acc', ρ7),
          ⟨es.length, by simp, S6, wipeE ρ6 vs1, xs, a1, Same.refl _, R6.rewipe vs1 (fun i hi => wipe_get hi) (wipe_length _ _), ra5.mono m6, by simp, e7⟩, ?_⟩
        rintro j n H7 ⟨rfl, S7, ρ8, ys, a2, m7, R7, ra7, hl7, f7⟩
        have itt1 := it1 j H7 S7 m7 R7.sh
        have mm : Same S1 S7 := m2.trans (m3.trans (m5.trans (m6.trans m7)))
        cases hd1 : es.drop j with
        | nil =>
          rw [hd1] at f7
          cases f7
          have hl : es.length ≤ j := by
            have := congrArg List.length hd1
            simp at this; omega
          refine .inl ⟨itt1.2 hl, S7, wipeE ρ7 vs, ys, acc', mm, ?_, ra7, f2⟩
          refine R7.rewipe vs (fun i hi => ?_) (by rw [wipe_length, wipe_length, ← wipe_length σ vs, ← kw, wipe_length])
          rw [wipe_get (fun z => hi (hs i z)), ← wipe_get (σ := σ4) hi, kw]
        | cons d1 rest1 =>
          obtain ⟨g11, g12, g13⟩ := drop_cons hd1
          rw [hd1] at f7
          unfold lcL at f7
          split at f7
          · cases f7
          · rename_i ρ9 e9
            obtain ⟨b1, ρ10, e10, f7⟩ := ob2_some f7
            have go1 := itt1.1 d1 g11
            refine .inr ⟨go1.1, fun H' => ∃ S' ρ' xs a2, Same S6 S' ∧ Rl K a0 (upd B Dd (.lst xs)) S0 (wipe σ4 vs1) H' S' ρ' ∧ RepA K S' xs a2 ∧ a2.length ≤ a1.length + (j + 1) ∧ lcL t1 c1 el vs1 rest1 ρ' a2 = some (acc', ρ7), fun H' ⟨S', ρ', zs, a3, k1, k2, k3, k4, k5⟩ => ⟨es.length - (j + 1), by omega, rfl, S', ρ', zs, a3, k1, k2, k3, k4, by rw [g12]; exact k5⟩, fun x H' y => ?_⟩
            obtain ⟨S8, m8, R8, r8⟩ := (go1.2 x H' y).go R7
            refine ⟨a0, _, S0, S8, ρ8, d1, ρ9, R8, r8, e9, fun σ9 R9 kk1 => ⟨kept_wipe hv1 kk1, ?_⟩⟩
            have kw1 := kept_wipe hv1 kk1
            refine ⟨a0, _, S0, S8, ρ9, b1, ρ10, R9, e10, fun H10 S10 m10 R10 => ?_⟩
            cases b1 with
            | false =>
              rw [if_neg (by decide)] at f7 ⊢
              refine ⟨S10, wipeE ρ10 vs1, ys, a2, m7.trans (m8.trans m10), ?_, ra7.mono (m8.trans m10), by omega, f7⟩
              have := R10.rewipe vs1 (σ' := wipe σ9 vs1) (fun i hi => wipe_get hi) (wipe_length _ _)
              rw [kw1] at this; exact this
            | true =>
              rw [if_pos rfl] at f7 ⊢
              obtain ⟨yv, ρ11, e11, f7⟩ := ob2_some f7
              refine ⟨a0, _, S0, S10, ρ10, yv, ρ11, R10, e11, fun v6 H11 S11 m11 R11 r11 => ?_⟩
              have m8' : Same S7 S11 := m8.trans (m10.trans m11)
              obtain ⟨n1, n2, n3⟩ := R11.reframe hS0 (.lst (ys ++ [v6]))
              refine ⟨ys, n2, ?_, S11, wipeE ρ11 vs1, ys ++ [v6], a2 ++ [yv], m7.trans m8', ?_, (ra7.mono m8').append (.cons r11 .nil), by simp; omega, f7⟩
              · rw [ra7.length]
                exact lt_l6 (by omega)
              · have := n3.rewipe vs1 (σ' := wipe σ9 vs1) (fun i hi => wipe_get hi) (wipe_length _ _)
                rw [kw1] at this; exact this
theorem do_lc2 {is is1 vs vs1 : List Nat} {fi fi1 : FL} {t t1 : FG} {c c1 : FT} {el : FE} (hv : ∀ i ∈ is, i ∈ vs) (hb : (∀ i ∈ is1, i ∈ vs1) ∧ (∀ i ∈ vs1, i ∈ vs)) (h : PE X e (tLc2 (dI X.K fi) (dG X.K is t) (dT X.K c) (dI X.K fi1) (dG X.K is1 t1) (dT X.K c1) (dE X.K el) vs vs1)) : PE X e (dO X.K (fLc2 fi t c fi1 t1 c1 el vs vs1)) :=
  pe_wk h fun σ H Q q => tlc2_go hv hb.1 hb.2 q
end
end DL

set_option Elab.async false
set_option linter.all false
set_option maxRecDepth 100000
set_option maxHeartbeats 4000000
/-! DL, part w: reckoning what a def's function gives: wishes of what follows. -/
namespace DL
open PySem PySem.Spec PyProof.Rows L2
structure Cn where
  nx : En → Prop
  rt : SV → En → Prop
  bk : En → Prop := fun _ => False
  ct : En → Prop := fun _ => False
def CnOk (C : Cn) : Rs → Prop
  | .nx ρ' => C.nx ρ'
  | .rt sv ρ' => C.rt sv ρ'
  | .bk ρ' => C.bk ρ'
  | .ct ρ' => C.ct ρ'
def WS (f : FS) (ρ : En) (C : Cn) : Prop := match f ρ with
  | some (.nx ρ') => C.nx ρ'
  | some (.rt sv ρ') => C.rt sv ρ'
  | some (.bk ρ') => C.bk ρ'
  | some (.ct ρ') => C.ct ρ'
  | none => False
/-- of anything that gives a thing and the slots -/
def WX {α : Type} (f : En → Option (α × En)) (ρ : En) (Q : α → En → Prop) : Prop := match f ρ with
  | some (d, ρ') => Q d ρ'
  | none => False
section
variable {α β : Type} {f : FS} {ρ ρ' : En} {C : Cn}
theorem wx_eq {f : En → Option (α × En)} {d : α} {Q : α → En → Prop} (h : f ρ = some (d, ρ')) (q : Q d ρ') : WX f ρ Q := by
  unfold WX; rw [h]; exact q
theorem wx_get {f : En → Option (α × En)} {Q : α → En → Prop} (h : WX f ρ Q) : ∃ d ρ', f ρ = some (d, ρ') ∧ Q d ρ' := by
  unfold WX at h
  split at h
  · rename_i d ρ' e; exact ⟨d, ρ', e, h⟩
  · exact h.elim
theorem wx_mono {f : En → Option (α × En)} {Q Q' : α → En → Prop} (h : WX f ρ Q) (w : ∀ d ρ', Q d ρ' → Q' d ρ') : WX f ρ Q' := by
  obtain ⟨d, ρ', e, q⟩ := wx_get h
  exact wx_eq e (w _ _ q)
theorem wx_ob2 {m : En → Option (α × En)} {k : α → En → Option (β × En)} {Q : β → En → Prop} (h : WX m ρ fun a ρ1 => WX (k a) ρ1 Q) : WX (fun ρ => ob2 (m ρ) k) ρ Q := by
  obtain ⟨a, ρ1, e, h⟩ := wx_get h
  obtain ⟨b, ρ2, e2, q⟩ := wx_get h
  refine wx_eq (d := b) (ρ' := ρ2) ?_ q
  show ob2 (m ρ) k = _
  rw [e]; exact e2
theorem ws_get (h : WS f ρ C) : ∃ r, f ρ = some r ∧ CnOk C r := by
  unfold WS at h
  split at h
  · rename_i r e; exact ⟨_, e, h⟩
  · rename_i r r2 e; exact ⟨_, e, h⟩
  · rename_i r e; exact ⟨_, e, h⟩
  · rename_i r e; exact ⟨_, e, h⟩
  · exact h.elim
theorem ws_mk {r : Rs} (e : f ρ = some r) (h : CnOk C r) : WS f ρ C := by
  unfold WS
  rw [e]
  cases r <;> exact h
theorem ws_nil (h : C.nx ρ) : WS bNil ρ C := h
theorem ws_seq {g : FS} (h : WS f ρ { C with nx := fun ρ1 => WS g ρ1 C }) : WS (bSeq f g) ρ C := by
  obtain ⟨r, e, h⟩ := ws_get h
  cases r with
  | nx ρ1 =>
    obtain ⟨r2, e2, h2⟩ := ws_get h
    exact ws_mk (r := r2) (by unfold bSeq; rw [e]; exact e2) h2
  | rt sv ρ1 => exact ws_mk (r := .rt sv ρ1) (by unfold bSeq; rw [e]) h
  | bk ρ1 => exact ws_mk (r := .bk ρ1) (by unfold bSeq; rw [e]) h
  | ct ρ1 => exact ws_mk (r := .ct ρ1) (by unfold bSeq; rw [e]) h
theorem ws_mono {C' : Cn} (h : WS f ρ C) (n : ∀ ρ, C.nx ρ → C'.nx ρ) (r : ∀ sv ρ, C.rt sv ρ → C'.rt sv ρ) (b : ∀ ρ, C.bk ρ → C'.bk ρ) (c : ∀ ρ, C.ct ρ → C'.ct ρ) : WS f ρ C' := by
  obtain ⟨x, e, h⟩ := ws_get h
  refine ws_mk e ?_
  cases x with
  | nx _ => exact n _ h
  | rt _ _ => exact r _ _ h
  | bk _ => exact b _ h
  | ct _ => exact c _ h
theorem ws_of {α : Type} {m : En → Option (α × En)} {k : α → En → Option Rs} {Q : α → En → Prop} (h : WX m ρ Q) (w : ∀ a ρ1, Q a ρ1 → WS (k a) ρ1 C) : WS (fun ρ => ob2 (m ρ) k) ρ C := by
  obtain ⟨a, ρ1, e, q⟩ := wx_get h
  obtain ⟨r, e2, h2⟩ := ws_get (w a ρ1 q)
  exact ws_mk (r := r) (by show ob2 (m ρ) k = _; rw [e]; exact e2) h2
theorem ws_set {k : Nat} {e : FE} (h : WX e ρ fun d ρ1 => C.nx (ρ1.set k (.sh d))) : WS (bSet k e) ρ C := ws_of h fun _ _ q => q
theorem ws_setO {k : Nat} {e : FO} (h : WX e ρ fun d ρ1 => C.nx (ρ1.set k (.ow d))) : WS (bSetO k e) ρ C := ws_of h fun _ _ q => q
theorem ws_ret {e : FE} (h : WX e ρ fun d ρ1 => C.rt (.sh d) ρ1) : WS (bRet e) ρ C := ws_of h fun _ _ q => q
theorem ws_retO {e : FO} (h : WX e ρ fun d ρ1 => C.rt (.ow d) ρ1) : WS (bRetO e) ρ C := ws_of h fun _ _ q => q
theorem ws_drop {e : FE} (h : WX e ρ fun _ ρ1 => C.nx ρ1) : WS (bDrop e) ρ C := ws_of h fun _ _ q => q
theorem ws_if {c : FT} {g : FS} (h : WX c ρ fun b ρ1 => (b = true → WS f ρ1 C) ∧ (b = false → WS g ρ1 C)) : WS (bIf c f g) ρ C := ws_of h fun b ρ1 q => by
  cases b with
  | true => exact q.1 rfl
  | false => exact q.2 rfl
theorem ws_asg {t : FG} {e : FE} (h : WX e ρ fun d ρ1 => ∃ ρ2, t d ρ1 = some ρ2 ∧ C.nx ρ2) : WS (bAsg t e) ρ C := ws_of h fun d ρ1 ⟨ρ2, e2, q⟩ => by
  refine ws_mk (r := .nx ρ2) ?_ q
  show (match t d ρ1 with | some ρ2 => some (Rs.nx ρ2) | none => none) = _
  rw [e2]
theorem ws_par {i j : Nat} {e g : FX} (h : WX e ρ fun x ρ1 => WX g ρ1 fun y ρ2 => C.nx ((ρ2.set i x).set j y)) : WS (bPar i j e g) ρ C := ws_of h fun x ρ1 q => ws_of (m := g) (k := fun y ρ2 => some (.nx ((ρ2.set i x).set j y))) q fun _ _ q => q
theorem wx_xS {e : FE} {Q : SV → En → Prop} (h : WX e ρ fun d ρ1 => Q (.sh d) ρ1) : WX (xS e) ρ Q := wx_ob2 (k := fun d ρ1 => some (SV.sh d, ρ1)) h
theorem wx_xO {e : FO} {Q : SV → En → Prop} (h : WX e ρ fun d ρ1 => Q (.ow d) ρ1) : WX (xO e) ρ Q := wx_ob2 (k := fun d ρ1 => some (SV.ow d, ρ1)) h
theorem wx_op {g : D → D → Option D} {fa fb : FE} {Q : D → En → Prop} (h : WX fa ρ fun x ρ1 => WX fb ρ1 fun y ρ2 => ∃ d, g x y = some d ∧ Q d ρ2) : WX (fOp g fa fb) ρ Q := by
  obtain ⟨x, ρ1, e1, h⟩ := wx_get h
  obtain ⟨y, ρ2, e2, d, e3, q⟩ := wx_get h
  refine wx_eq (d := d) (ρ' := ρ2) ?_ q
  unfold fOp
  rw [e1]; show ob2 (fb ρ1) _ = _; rw [e2]; show wth (g x y) ρ2 = _; rw [e3]; rfl
theorem wx_opO {g : D → D → Option (List D)} {fa fb : FE} {Q : Ob → En → Prop} (h : WX fa ρ fun x ρ1 => WX fb ρ1 fun y ρ2 => ∃ d, g x y = some d ∧ Q (.lst d) ρ2) : WX (fOpO g fa fb) ρ Q := by
  obtain ⟨x, ρ1, e1, h⟩ := wx_get h
  obtain ⟨y, ρ2, e2, d, e3, q⟩ := wx_get h
  refine wx_eq (d := .lst d) (ρ' := ρ2) ?_ q
  unfold fOpO
  rw [e1]; show ob2 (fb ρ1) _ = _; rw [e2]
  show (match g x y with | some es => some (Ob.lst es, ρ2) | none => none) = _
  rw [e3]
theorem wx_cmp {g : D → D → Option Bool} {fa fb : FE} {Q : Bool → En → Prop} (h : WX fa ρ fun x ρ1 => WX fb ρ1 fun y ρ2 => ∃ d, g x y = some d ∧ Q d ρ2) : WX (fCmp g fa fb) ρ Q := by
  obtain ⟨x, ρ1, e1, h⟩ := wx_get h
  obtain ⟨y, ρ2, e2, d, e3, q⟩ := wx_get h
  refine wx_eq (d := d) (ρ' := ρ2) ?_ q
  unfold fCmp
  rw [e1]; show ob2 (fb ρ1) _ = _; rw [e2]; show wth (g x y) ρ2 = _; rw [e3]; rfl
theorem wx_or {t u : FT} {Q : Bool → En → Prop} (h : WX t ρ fun b ρ1 => (b = true → Q true ρ1) ∧ (b = false → WX u ρ1 Q)) : WX (fOr t u) ρ Q := by
  obtain ⟨b, ρ1, e1, h⟩ := wx_get h
  cases b with
  | true => exact wx_eq (d := true) (ρ' := ρ1) (by unfold fOr; rw [e1]; rfl) (h.1 rfl)
  | false =>
    obtain ⟨c, ρ2, e2, q⟩ := wx_get (h.2 rfl)
    exact wx_eq (d := c) (ρ' := ρ2) (by unfold fOr; rw [e1]; exact e2) q
theorem wx_and {t u : FT} {Q : Bool → En → Prop} (h : WX t ρ fun b ρ1 => (b = true → WX u ρ1 Q) ∧ (b = false → Q false ρ1)) : WX (fAnd t u) ρ Q := by
  obtain ⟨b, ρ1, e1, h⟩ := wx_get h
  cases b with
  | false => exact wx_eq (d := false) (ρ' := ρ1) (by unfold fAnd; rw [e1]; rfl) (h.2 rfl)
  | true =>
    obtain ⟨c, ρ2, e2, q⟩ := wx_get (h.1 rfl)
    exact wx_eq (d := c) (ρ' := ρ2) (by unfold fAnd; rw [e1]; exact e2) q
theorem wx_not {t : FT} {Q : Bool → En → Prop} (h : WX t ρ fun b ρ1 => Q (!b) ρ1) : WX (fNot t) ρ Q := by
  obtain ⟨b, ρ1, e1, h⟩ := wx_get h
  exact wx_eq (d := !b) (ρ' := ρ1) (by unfold fNot; rw [e1]; rfl) h
theorem wx_te {e : FE} {Q : Bool → En → Prop} (h : WX e ρ fun d ρ1 => ∃ b, d = .bool b ∧ Q b ρ1) : WX (fTe e) ρ Q := by
  obtain ⟨d, ρ1, e1, b, rfl, q⟩ := wx_get h
  exact wx_eq (d := b) (ρ' := ρ1) (by unfold fTe; rw [e1]; rfl) q
theorem wx_bl {t : FT} {Q : D → En → Prop} (h : WX t ρ fun b ρ1 => Q (.bool b) ρ1) : WX (fBl t) ρ Q := by
  obtain ⟨b, ρ1, e1, q⟩ := wx_get h
  exact wx_eq (d := .bool b) (ρ' := ρ1) (by unfold fBl; rw [e1]; rfl) q
theorem wx_ife {t : FT} {fa fb : FE} {Q : D → En → Prop} (h : WX t ρ fun b ρ1 => (b = true → WX fa ρ1 Q) ∧ (b = false → WX fb ρ1 Q)) : WX (fIf t fa fb) ρ Q := by
  obtain ⟨b, ρ1, e1, h⟩ := wx_get h
  cases b with
  | true =>
    obtain ⟨c, ρ2, e2, q⟩ := wx_get (h.1 rfl)
    exact wx_eq (d := c) (ρ' := ρ2) (by unfold fIf; rw [e1]; exact e2) q
  | false =>
    obtain ⟨c, ρ2, e2, q⟩ := wx_get (h.2 rfl)
    exact wx_eq (d := c) (ρ' := ρ2) (by unfold fIf; rw [e1]; exact e2) q
theorem wx_c {d : D} {Q : D → En → Prop} (h : Q d ρ) : WX (fC d) ρ Q := h
theorem wx_var {k : Nat} {d : D} {Q : D → En → Prop} (e : ρ[k]? = some (.sh d)) (h : Q d ρ) : WX (fVar k) ρ Q := wx_eq (d := d) (ρ' := ρ) (by unfold fVar; rw [e]) h
theorem wx_nil {Q : List D → En → Prop} (h : Q [] ρ) : WX fNil ρ Q := h
theorem wx_cons {fa : FE} {fr : FL} {Q : List D → En → Prop} (h : WX fa ρ fun d ρ1 => WX fr ρ1 fun ds ρ2 => Q (d :: ds) ρ2) : WX (fCons fa fr) ρ Q := by
  obtain ⟨x, ρ1, e1, h⟩ := wx_get h
  obtain ⟨y, ρ2, e2, q⟩ := wx_get h
  exact wx_eq (d := x :: y) (ρ' := ρ2) (by unfold fCons; rw [e1]; show ob2 (fr ρ1) _ = _; rw [e2]; rfl) q
theorem wx_tup {fl : FL} {Q : D → En → Prop} (h : WX fl ρ fun ds ρ1 => ds.length ≤ 1000 ∧ Q (.tuple ds) ρ1) : WX (fTup fl) ρ Q := by
  obtain ⟨ds, ρ1, e1, hl, q⟩ := wx_get h
  exact wx_eq (d := .tuple ds) (ρ' := ρ1) (by unfold fTup; rw [e1]; show (if ds.length ≤ 1000 then _ else _) = _; rw [if_pos hl]) q
theorem wx_lst {fl : FL} {Q : D → En → Prop} (h : WX fl ρ fun ds ρ1 => ds.length ≤ 1000 ∧ Q (.list ds) ρ1) : WX (fLst fl) ρ Q := by
  obtain ⟨ds, ρ1, e1, hl, q⟩ := wx_get h
  exact wx_eq (d := .list ds) (ρ' := ρ1) (by unfold fLst; rw [e1]; show (if ds.length ≤ 1000 then _ else _) = _; rw [if_pos hl]) q
theorem wx_lstO {fl : FL} {Q : Ob → En → Prop} (h : WX fl ρ fun ds ρ1 => ds.length ≤ 1000 ∧ Q (.lst ds) ρ1) : WX (fLstO fl) ρ Q := by
  obtain ⟨ds, ρ1, e1, hl, q⟩ := wx_get h
  exact wx_eq (d := .lst ds) (ρ' := ρ1) (by unfold fLstO; rw [e1]; show (if ds.length ≤ 1000 then _ else _) = _; rw [if_pos hl]) q
theorem wx_frz {e : FO} {Q : D → En → Prop} (h : WX e ρ fun o ρ1 => ∃ ds, o = .lst ds ∧ Q (.list ds) ρ1) : WX (fFrz e) ρ Q := by
  obtain ⟨o, ρ1, e1, ds, rfl, q⟩ := wx_get h
  exact wx_eq (d := .list ds) (ρ' := ρ1) (by unfold fFrz; rw [e1]; rfl) q
theorem wx_call {g : List D → Option D} {fl : FL} {Q : D → En → Prop} (h : WX fl ρ fun ds ρ1 => ∃ d, g ds = some d ∧ Q d ρ1) : WX (fCall g fl) ρ Q := by
  obtain ⟨ds, ρ1, e1, d, e2, q⟩ := wx_get h
  exact wx_eq (d := d) (ρ' := ρ1) (by unfold fCall; rw [e1]; show wth (g ds) ρ1 = _; rw [e2]; rfl) q
theorem wx_callO {g : List D → Option (List D)} {fl : FL} {Q : Ob → En → Prop} (h : WX fl ρ fun ds ρ1 => ∃ d, g ds = some d ∧ Q (.lst d) ρ1) : WX (fCallO g fl) ρ Q := by
  obtain ⟨ds, ρ1, e1, d, e2, q⟩ := wx_get h
  exact wx_eq (d := .lst d) (ρ' := ρ1) (by unfold fCallO; rw [e1]; show (match g ds with | some es => some (Ob.lst es, ρ1) | none => none) = _; rw [e2]) q
theorem wx_fn {F : SF} {fl : FL} {Q : D → En → Prop} (h : WX fl ρ fun ds ρ1 => ∃ d w, F (ds.map SV.sh) = some (.sh d, w) ∧ Q d ρ1) : WX (fFn F fl) ρ Q := by
  obtain ⟨ds, ρ1, e1, d, w, e2, q⟩ := wx_get h
  exact wx_eq (d := d) (ρ' := ρ1) (by unfold fFn; rw [e1]; show (match F (ds.map SV.sh) with | some (.sh d, _) => some (d, ρ1) | _ => none) = _; rw [e2]) q
theorem wx_fnO {F : SF} {fl : FL} {Q : Ob → En → Prop} (h : WX fl ρ fun ds ρ1 => ∃ o w, F (ds.map SV.sh) = some (.ow o, w) ∧ Q o ρ1) : WX (fFnO F fl) ρ Q := by
  obtain ⟨ds, ρ1, e1, d, w, e2, q⟩ := wx_get h
  exact wx_eq (d := d) (ρ' := ρ1) (by unfold fFnO; rw [e1]; show (match F (ds.map SV.sh) with | some (.ow o, _) => some (o, ρ1) | _ => none) = _; rw [e2]) q
/-- a call with the parameter's well -/
theorem wx_fnP {F : SF} {k : Nat} {fl : FL} {o0 : Ob} {Q : D → En → Prop} (h0 : ρ[k]? = some (.pa o0)) (h : WX fl ρ fun ds ρ1 => ∃ o, ρ1[k]? = some (.pa o) ∧ ∃ d o', F (.pa o :: ds.map SV.sh) = some (.sh d, .pa o') ∧ Q d (ρ1.set k (.pa o'))) : WX (fFnW F k fl) ρ Q := by
  obtain ⟨ds, ρ1, e1, o, e2, d, o', e3, q⟩ := wx_get h
  refine wx_eq (d := d) (ρ' := ρ1.set k (.pa o')) ?_ q
  unfold fFnW
  rw [h0]; dsimp only; rw [e1]
  show (match ρ1[k]? with | some (.pa o) => _ | _ => none) = _
  rw [e2]; dsimp only; rw [e3]
/-- a call with one's own well -/
theorem wx_fnW {F : SF} {k : Nat} {fl : FL} {o0 : Ob} {Q : D → En → Prop} (h0 : ρ[k]? = some (.ow o0)) (h : WX fl ρ fun ds ρ1 => ∃ o, ρ1[k]? = some (.ow o) ∧ ∃ d o', F (.pa o :: ds.map SV.sh) = some (.sh d, .pa o') ∧ Q d (ρ1.set k (.ow o'))) : WX (fFnW F k fl) ρ Q := by
  obtain ⟨ds, ρ1, e1, o, e2, d, o', e3, q⟩ := wx_get h
  refine wx_eq (d := d) (ρ' := ρ1.set k (.ow o')) ?_ q
  unfold fFnW
  rw [h0]; dsimp only; rw [e1]
  show (match ρ1[k]? with | some (.ow o) => _ | _ => none) = _
  rw [e2]; dsimp only; rw [e3]
theorem wx_mt {k : Nat} {g : List D → List D → Option (D × List D)} {fl : FL} {ds0 : List D} {Q : D → En → Prop} (h0 : ρ[k]? = some (.ow (.lst ds0))) (h : WX fl ρ fun as ρ1 => ∃ ds, ρ1[k]? = some (.ow (.lst ds)) ∧ ∃ ret ds', g ds as = some (ret, ds') ∧ Q ret (ρ1.set k (.ow (.lst ds')))) : WX (fMt k g fl) ρ Q := by
  obtain ⟨as, ρ1, e1, ds, e2, ret, ds', e3, q⟩ := wx_get h
  refine wx_eq (d := ret) (ρ' := ρ1.set k (.ow (.lst ds'))) ?_ q
  unfold fMt
  rw [h0]; dsimp only; rw [e1]
  show (match ρ1[k]? with | some (.ow (.lst ds)) => _ | _ => none) = _
  rw [e2]; dsimp only; rw [e3]
theorem wx_ixO {k : Nat} {fi : FE} {ds0 : Ob} {Q : D → En → Prop} (h0 : ρ[k]? = some (.ow ds0)) (h : WX fi ρ fun y ρ1 => ∃ ds i d, ρ1[k]? = some (.ow (.lst ds)) ∧ y = .int i ∧ L2.atI ds i = some d ∧ Q d ρ1) : WX (fIxO k fi) ρ Q := by
  obtain ⟨y, ρ1, e1, ds, i, d, e2, rfl, e3, q⟩ := wx_get h
  refine wx_eq (d := d) (ρ' := ρ1) ?_ q
  unfold fIxO
  rw [h0]; dsimp only; rw [e1]
  show (match ρ1[k]? with | some (.ow (.lst ds)) => _ | _ => none) = _
  rw [e2]; dsimp only; rw [e3]; rfl
theorem wx_ownC {k : Nat} {g : List D → Option D} {ds : List D} {d : D} {Q : D → En → Prop} (h0 : ρ[k]? = some (.ow (.lst ds))) (e : g ds = some d) (q : Q d ρ) : WX (fOwnC k g) ρ Q :=
  wx_eq (d := d) (ρ' := ρ) (by unfold fOwnC; rw [h0]; dsimp only; rw [e]; rfl) q
theorem wx_it {e : FE} {Q : List D → En → Prop} (h : WX e ρ fun d ρ1 => ∃ ds, (d = .list ds ∨ d = .tuple ds) ∧ Q ds ρ1) : WX (fIt e) ρ Q := by
  obtain ⟨d, ρ1, e1, ds, hd, q⟩ := wx_get h
  refine wx_eq (d := ds) (ρ' := ρ1) ?_ q
  unfold fIt
  rw [e1]
  rcases hd with rfl | rfl <;> rfl
theorem wx_rev {e : FE} {Q : D → En → Prop} (h : WX e ρ fun d ρ1 => ∃ ds, (d = .list ds ∧ Q (.list ds.reverse) ρ1) ∨ (d = .tuple ds ∧ Q (.tuple ds.reverse) ρ1)) : WX (fRev e) ρ Q := by
  obtain ⟨d, ρ1, e1, ds, hd⟩ := wx_get h
  rcases hd with ⟨rfl, q⟩ | ⟨rfl, q⟩
  · exact wx_eq (d := .list ds.reverse) (ρ' := ρ1) (by unfold fRev; rw [e1]; rfl) q
  · exact wx_eq (d := .tuple ds.reverse) (ρ' := ρ1) (by unfold fRev; rw [e1]; rfl) q
/-- for, by an invariant over the number of turns done -/
theorem ws_for {fi : FL} {t : FG} {b : FS} (h : WX fi ρ fun ds ρ1 => ∃ I : Nat → En → Prop, I 0 ρ1 ∧ (∀ i d ρ, ds[i]? = some d → I i ρ → ∃ ρ2, t d ρ = some ρ2 ∧ WS b ρ2 ⟨I (i + 1), C.rt, C.nx, I (i + 1)⟩) ∧ ∀ ρ, I ds.length ρ → C.nx ρ) : WS (bFor fi t b) ρ C := by
  refine ws_of h fun ds ρ1 ⟨I, h0, hs, hd⟩ => ?_
  have key : ∀ (n i : Nat) (ρ : En), ds.length - i = n → i ≤ ds.length → I i ρ → WS (forL t b (ds.drop i)) ρ C := by
    intro n
    induction n with
    | zero =>
      intro i ρ hn hi hI
      have e : i = ds.length := by omega
      subst e
      rw [List.drop_length]
      exact hd ρ hI
    | succ n ih =>
      intro i ρ hn hi hI
      have hlt : i < ds.length := by omega
      rw [List.drop_eq_getElem_cons hlt]
      obtain ⟨ρ2, e2, hb⟩ := hs i ds[i] ρ (List.getElem?_eq_getElem hlt) hI
      obtain ⟨r, e3, hr⟩ := ws_get hb
      have go : ∀ ρ3, I (i + 1) ρ3 → WS (forL t b (ds.drop (i + 1))) ρ3 C := fun ρ3 h3 => ih (i + 1) ρ3 (by omega) (by omega) h3
      cases r with
      | nx ρ3 =>
        obtain ⟨r2, e4, h4⟩ := ws_get (go ρ3 hr)
        exact ws_mk (r := r2) (by unfold forL; rw [e2]; dsimp only; rw [e3]; exact e4) h4
      | ct ρ3 =>
        obtain ⟨r2, e4, h4⟩ := ws_get (go ρ3 hr)
        exact ws_mk (r := r2) (by unfold forL; rw [e2]; dsimp only; rw [e3]; exact e4) h4
      | bk ρ3 => exact ws_mk (r := .nx ρ3) (by unfold forL; rw [e2]; dsimp only; rw [e3]) hr
      | rt sv ρ3 => exact ws_mk (r := .rt sv ρ3) (by unfold forL; rw [e2]; dsimp only; rw [e3]) hr
  have := key ds.length 0 ρ1 (by omega) (by omega) h0
  rw [List.drop_zero] at this
  exact this
theorem bWhile_succ {n : Nat} {c : FT} {b : FS} {ρ : En} : bWhile (n + 1) c b ρ = ob2 (c ρ) fun x ρ1 => if x = true then (match b ρ1 with
      | some (.nx ρ2) => bWhile n c b ρ2
      | some (.ct ρ2) => bWhile n c b ρ2
      | some (.bk ρ2) => some (.nx ρ2)
      | r => r) else some (.nx ρ1) := rfl
/-- while, by an invariant and a number that falls -/
theorem ws_while {n : Nat} {c : FT} {b : FS} (I : Nat → En → Prop) (m : Nat) (hm : m < n) (h0 : I m ρ) (hs : ∀ m ρ, I m ρ → WX c ρ fun x ρ1 => (x = true → WS b ρ1 ⟨fun ρ2 => ∃ m', m' < m ∧ I m' ρ2, C.rt, C.nx, fun ρ2 => ∃ m', m' < m ∧ I m' ρ2⟩) ∧ (x = false → C.nx ρ1)) : WS (bWhile n c b) ρ C := by
  induction n generalizing m ρ with
  | zero => omega
  | succ n ih =>
    obtain ⟨x, ρ1, e1, ht, hf⟩ := wx_get (hs m ρ h0)
    cases x with
    | false => exact ws_mk (r := .nx ρ1) (by rw [bWhile_succ, e1]; rfl) (hf rfl)
    | true =>
      obtain ⟨r, e2, hr⟩ := ws_get (ht rfl)
      cases r with
      | nx ρ2 =>
        obtain ⟨m', hlt, hI⟩ := hr
        obtain ⟨r2, e4, h4⟩ := ws_get (ih m' (by omega) hI)
        exact ws_mk (r := r2) (by rw [bWhile_succ, e1]; simp only [ob2, e2, if_true]; exact e4) h4
      | ct ρ2 =>
        obtain ⟨m', hlt, hI⟩ := hr
        obtain ⟨r2, e4, h4⟩ := ws_get (ih m' (by omega) hI)
        exact ws_mk (r := r2) (by rw [bWhile_succ, e1]; simp only [ob2, e2, if_true]; exact e4) h4
      | bk ρ2 => exact ws_mk (r := .nx ρ2) (by rw [bWhile_succ, e1]; simp only [ob2, e2, if_true]) hr
      | rt sv ρ2 => exact ws_mk (r := .rt sv ρ2) (by rw [bWhile_succ, e1]; simp only [ob2, e2, if_true]) hr
/-- a list comprehension, by an invariant over turns and the list so far -/
theorem wx_lc {fi : FL} {t : FG} {c : FT} {el : FE} {vs : List Nat} {Q : Ob → En → Prop} (h : WX fi ρ fun ds ρ1 => ds.length ≤ 1000000 ∧ ∃ I : Nat → List D → En → Prop, I 0 [] (wipeE ρ1 vs) ∧
    (∀ i d acc ρ, ds[i]? = some d → I i acc ρ → ∃ ρ2, t d ρ = some ρ2 ∧ WX c ρ2 fun b ρ3 => (b = true → WX el ρ3 fun y ρ4 => I (i + 1) (acc ++ [y]) (wipeE ρ4 vs)) ∧ (b = false → I (i + 1) acc (wipeE ρ3 vs))) ∧
    ∀ acc ρ, I ds.length acc ρ → Q (.lst acc) (wipeE ρ vs)) : WX (fLc fi t c el vs) ρ Q := by
  obtain ⟨ds, ρ1, e1, hl, I, h0, hs, hd⟩ := wx_get h
  have key : ∀ (n i : Nat) (acc : List D) (ρ : En), ds.length - i = n → i ≤ ds.length → I i acc ρ → ∃ acc' ρ', lcL t c el vs (ds.drop i) ρ acc = some (acc', ρ') ∧ I ds.length acc' ρ' := by
    intro n
    induction n with
    | zero =>
      intro i acc ρ hn hi hI
      have e : i = ds.length := by omega
      subst e
      rw [List.drop_length]
      exact ⟨acc, ρ, rfl, hI⟩
    | succ n ih =>
      intro i acc ρ hn hi hI
      have hlt : i < ds.length := by omega
      rw [List.drop_eq_getElem_cons hlt]
      obtain ⟨ρ2, e2, hb⟩ := hs i ds[i] acc ρ (List.getElem?_eq_getElem hlt) hI
      obtain ⟨b, ρ3, e3, ht, hf⟩ := wx_get hb
      cases b with
      | false =>
        obtain ⟨acc', ρ', e4, h4⟩ := ih (i + 1) acc _ (by omega) (by omega) (hf rfl)
        refine ⟨acc', ρ', ?_, h4⟩
        unfold lcL; rw [e2]; dsimp only; rw [e3]; exact e4
      | true =>
        obtain ⟨y, ρ4, e5, h5⟩ := wx_get (ht rfl)
        obtain ⟨acc', ρ', e4, h4⟩ := ih (i + 1) _ _ (by omega) (by omega) h5
        refine ⟨acc', ρ', ?_, h4⟩
        unfold lcL; rw [e2]; simp only [ob2, e3, if_true, e5]; exact e4
  obtain ⟨acc', ρ', e4, h4⟩ := key ds.length 0 [] _ (by omega) (by omega) h0
  rw [List.drop_zero] at e4
  refine wx_eq (d := .lst acc') (ρ' := wipeE ρ' vs) ?_ (hd _ _ h4)
  unfold fLc
  rw [e1]
  show (if ds.length ≤ 1000000 then _ else _) = _
  rw [if_pos hl, e4]
  rfl
/-- a def's value from its body's wish -/
theorem run_of {N : Nat} {b : FS} {avs : List SV} {Q : SV → SV → Prop} (h : WS b (avs ++ List.replicate (N - avs.length) .un) ⟨fun ρ => Q (.sh .none) (paOf ρ), fun sv ρ => Q sv (paOf ρ), fun _ => False, fun _ => False⟩) : ∃ sv w, runD N b avs = some (sv, w) ∧ Q sv w := by
  obtain ⟨r, e, h⟩ := ws_get h
  cases r with
  | nx ρ => exact ⟨_, _, by unfold runD; rw [e], h⟩
  | rt sv ρ => exact ⟨_, _, by unfold runD; rw [e], h⟩
  | bk ρ => exact h.elim
  | ct ρ => exact h.elim
theorem run_eq {N : Nat} {b : FS} {avs : List SV} {sv w : SV} (h : WS b (avs ++ List.replicate (N - avs.length) .un) ⟨fun ρ => SV.sh .none = sv ∧ paOf ρ = w, fun s ρ => s = sv ∧ paOf ρ = w, fun _ => False, fun _ => False⟩) : runD N b avs = some (sv, w) := by
  obtain ⟨s, w', e, h1, h2⟩ := run_of (Q := fun s w' => s = sv ∧ w' = w) h
  subst h1 h2
  exact e
end
end DL

set_option Elab.async false
set_option linter.all false
set_option maxRecDepth 100000
set_option maxHeartbeats 4000000
/-! DL, part x: more wishes. -/
namespace DL
open PySem PySem.Spec PyProof.Rows L2
section
variable {α β : Type} {f : FS} {ρ ρ' : En} {C : Cn}
theorem wx_neg {fa : FE} {Q : D → En → Prop} (h : WX fa ρ fun d ρ1 => ∃ i, d = .int i ∧ Q (.int (-i)) ρ1) : WX (fNeg fa) ρ Q := by
  obtain ⟨d, ρ1, e1, i, rfl, q⟩ := wx_get h
  exact wx_eq (d := .int (-i)) (ρ' := ρ1) (by unfold fNeg; rw [e1]; rfl) q
theorem wx_negc {i : Int} {Q : D → En → Prop} (q : Q (.int (-i)) ρ) : WX (fNeg (fC (.int i))) ρ Q := wx_neg (wx_c ⟨i, rfl, q⟩)
theorem wx_r1 {fl : FL} {Q : List D → En → Prop} (h : WX fl ρ fun ds ρ1 => ∃ j, ds = [.int j] ∧ (-(2 ^ 62) ≤ j ∧ j < 2 ^ 62) ∧ Q (upI 0 j.toNat) ρ1) : WX (fR1 fl) ρ Q := by
  obtain ⟨d, ρ1, e1, j, rfl, hj, q⟩ := wx_get h
  exact wx_eq (d := upI 0 j.toNat) (ρ' := ρ1) (by unfold fR1; rw [e1]; show (if _ then _ else _) = _; rw [if_pos hj]) q
theorem wx_r2 {fl : FL} {Q : List D → En → Prop} (h : WX fl ρ fun ds ρ1 => ∃ i j, ds = [.int i, .int j] ∧ (-(2 ^ 62) ≤ i ∧ i < 2 ^ 62 ∧ -(2 ^ 62) ≤ j ∧ j < 2 ^ 62) ∧ Q (upI i (j - i).toNat) ρ1) : WX (fR2 fl) ρ Q := by
  obtain ⟨d, ρ1, e1, i, j, rfl, hj, q⟩ := wx_get h
  exact wx_eq (d := upI i (j - i).toNat) (ρ' := ρ1) (by unfold fR2; rw [e1]; show (if _ then _ else _) = _; rw [if_pos hj]) q
theorem wx_r3 {fl : FL} {Q : List D → En → Prop} (h : WX fl ρ fun ds ρ1 => ∃ i j, ds = [.int i, .int j, .int (-1)] ∧ (-(2 ^ 62) ≤ i ∧ i < 2 ^ 62 ∧ -(2 ^ 62) ≤ j ∧ j < 2 ^ 62) ∧ Q (downI i (i - j).toNat) ρ1) : WX (fR3 fl) ρ Q := by
  obtain ⟨d, ρ1, e1, i, j, rfl, hj, q⟩ := wx_get h
  exact wx_eq (d := downI i (i - j).toNat) (ρ' := ρ1) (by unfold fR3; rw [e1]; show (if _ then _ else _) = _; rw [if_pos ⟨rfl, hj⟩]) q
theorem wx_revO {k : Nat} {ds : List D} {Q : D → En → Prop} (e : ρ[k]? = some (.ow (.lst ds))) (q : Q (.list ds.reverse) ρ) : WX (fRevO k) ρ Q := wx_eq (d := .list ds.reverse) (ρ' := ρ) (by unfold fRevO; rw [e]) q
theorem wx_noP {Q : Option Int → En → Prop} (q : Q none ρ) : WX fNoP ρ Q := q
theorem wx_part {fa : FE} {Q : Option Int → En → Prop} (h : WX fa ρ fun d ρ1 => ∃ i, d = .int i ∧ Q (some i) ρ1) : WX (fPart fa) ρ Q := by
  obtain ⟨d, ρ1, e1, i, rfl, q⟩ := wx_get h
  exact wx_eq (d := some i) (ρ' := ρ1) (by unfold fPart; rw [e1]; rfl) q
theorem wx_slO {k : Nat} {fl fh : FP} {ds0 : List D} {Q : D → En → Prop} (h0 : ρ[k]? = some (.ow (.lst ds0))) (h : WX fl ρ fun lo ρ1 => WX fh ρ1 fun hi ρ2 => ∃ ds, ρ2[k]? = some (.ow (.lst ds)) ∧ Q (.list (cutD ds lo hi)) ρ2) : WX (fSlO k fl fh) ρ Q := by
  obtain ⟨lo, ρ1, e1, h⟩ := wx_get h
  obtain ⟨hi, ρ2, e2, ds, e3, q⟩ := wx_get h
  refine wx_eq (d := .list (cutD ds lo hi)) (ρ' := ρ2) ?_ q
  unfold fSlO
  rw [h0]; dsimp only; rw [e1]; show ob2 (fh ρ1) _ = _; rw [e2]
  show (match ρ2[k]? with | some (.ow (.lst ds)) => _ | _ => none) = _
  rw [e3]
theorem wx_slS {k : Nat} {fl fh : FP} {ns0 : List Int} {Q : D → En → Prop} (h0 : ρ[k]? = some (.scr ns0)) (h : WX fl ρ fun lo ρ1 => WX fh ρ1 fun hi ρ2 => ∃ ns, ρ2[k]? = some (.scr ns) ∧ Q (.list (cutD (ns.map PyData.int) lo hi)) ρ2) : WX (fSlS k fl fh) ρ Q := by
  obtain ⟨lo, ρ1, e1, h⟩ := wx_get h
  obtain ⟨hi, ρ2, e2, ds, e3, q⟩ := wx_get h
  refine wx_eq (d := .list (cutD (ds.map PyData.int) lo hi)) (ρ' := ρ2) ?_ q
  unfold fSlS
  rw [h0]; dsimp only; rw [e1]; show ob2 (fh ρ1) _ = _; rw [e2]
  show (match ρ2[k]? with | some (.scr ns) => _ | _ => none) = _
  rw [e3]
theorem wx_sl {g : D → Option Int → Option Int → Option D} {fe : FE} {fl fh : FP} {Q : D → En → Prop} (h : WX fe ρ fun x ρ1 => WX fl ρ1 fun lo ρ2 => WX fh ρ2 fun hi ρ3 => ∃ d, g x lo hi = some d ∧ Q d ρ3) : WX (fSl g fe fl fh) ρ Q := by
  obtain ⟨x, ρ1, e1, h⟩ := wx_get h
  obtain ⟨lo, ρ2, e2, h⟩ := wx_get h
  obtain ⟨hi, ρ3, e3, d, e4, q⟩ := wx_get h
  refine wx_eq (d := d) (ρ' := ρ3) ?_ q
  unfold fSl
  rw [e1]; show ob2 (fl ρ1) _ = _; rw [e2]; show ob2 (fh ρ2) _ = _; rw [e3]; show wth (g x lo hi) ρ3 = _; rw [e4]; rfl
theorem wx_lenS {k : Nat} {ns : List Int} {Q : D → En → Prop} (e : ρ[k]? = some (.scr ns)) (q : Q (.int ns.length) ρ) : WX (fLenS k) ρ Q := wx_eq (d := .int ns.length) (ρ' := ρ) (by unfold fLenS; rw [e]) q
theorem wx_bmT {g : D → List D → Option D} {fo : FE} {fl : FL} {Q : D → En → Prop} (h : WX fo ρ fun d ρ1 => ∃ xs, d = .tuple xs ∧ WX fl ρ1 fun ds ρ2 => ∃ r, g (.tuple xs) ds = some r ∧ Q r ρ2) : WX (fBmT g fo fl) ρ Q := by
  obtain ⟨d, ρ1, e1, xs, rfl, h⟩ := wx_get h
  obtain ⟨ds, ρ2, e2, r, e3, q⟩ := wx_get h
  refine wx_eq (d := r) (ρ' := ρ2) ?_ q
  unfold fBmT
  rw [e1]; show ob2 (fl ρ1) _ = _; rw [e2]; show wth (g _ ds) ρ2 = _; rw [e3]; rfl
theorem wx_sortO {fo : FO} {Q : Ob → En → Prop} (h : WX fo ρ fun o ρ1 => ∃ ds, gSortD o = some ds ∧ Q (.lst ds) ρ1) : WX (fSortO fo) ρ Q := by
  obtain ⟨o, ρ1, e1, ds, e2, q⟩ := wx_get h
  refine wx_eq (d := .lst ds) (ρ' := ρ1) ?_ q
  unfold fSortO
  rw [e1]; show (match gSortD o with | some ds => _ | none => none) = _; rw [e2]
theorem wx_sortK {k : Nat} {o : Ob} {ds : List D} {Q : Ob → En → Prop} (e : ρ[k]? = some (.ow o)) (g : gSortD o = some ds) (q : Q (.lst ds) ρ) : WX (fSortK k) ρ Q :=
  wx_eq (d := .lst ds) (ρ' := ρ) (by unfold fSortK; rw [e]; dsimp only; rw [g]) q
theorem wx_dictO {fl : FL} {Q : Ob → En → Prop} (h : WX fl ρ fun ds ρ1 => ∃ kvs, gDictP ds = some kvs ∧ Q (.dK kvs) ρ1) : WX (fDictO fl) ρ Q := by
  obtain ⟨ds, ρ1, e1, kvs, e2, q⟩ := wx_get h
  refine wx_eq (d := .dK kvs) (ρ' := ρ1) ?_ q
  unfold fDictO
  rw [e1]; show (match gDictP ds with | some kvs => _ | none => none) = _; rw [e2]
theorem wx_d0 {Q : Ob → En → Prop} (q : Q (.dK []) ρ) : WX fD0 ρ Q := q
theorem ws_dput {k : Nat} {fk fv : FE} (h : WX fv ρ fun v ρ1 => ∃ k0, ρ1[k]? = some (.ow (.dK k0)) ∧ WX fk ρ1 fun y ρ2 => ∃ kvs kk, ρ2[k]? = some (.ow (.dK kvs)) ∧ keyOf y = some kk ∧ kvs.length < 1000000 ∧ C.nx (ρ2.set k (.ow (.dK (kput kvs kk v))))) : WS (bDPut k fk fv) ρ C := by
  obtain ⟨v, ρ1, e1, k0, e2, h⟩ := wx_get h
  obtain ⟨y, ρ2, e3, kvs, kk, e4, e5, hl, q⟩ := wx_get h
  refine ws_mk (r := .nx (ρ2.set k (.ow (.dK (kput kvs kk v))))) ?_ q
  unfold bDPut
  rw [e1]; show (match ρ1[k]? with | some (.ow (.dK _)) => _ | _ => none) = _
  rw [e2]; dsimp only; rw [e3]
  show (match ρ2[k]?, keyOf y with | some (.ow (.dK kvs)), some kk => _ | _, _ => none) = _
  rw [e4, e5]; dsimp only; rw [if_pos hl]
theorem wx_well {fa : FO} {fb fc : FE} {Q : Ob → En → Prop} (h : WX fa ρ fun o ρ1 => WX fb ρ1 fun y ρ2 => WX fc ρ2 fun z ρ3 => ∃ ds ns s c, o = .lst ds ∧ y = .int s ∧ z = .int c ∧ intsOf ds = some ns ∧ Q (.well ns s c) ρ3) : WX (fWell fa fb fc) ρ Q := by
  obtain ⟨o, ρ1, e1, h⟩ := wx_get h
  obtain ⟨y, ρ2, e2, h⟩ := wx_get h
  obtain ⟨z, ρ3, e3, ds, ns, s, c, rfl, rfl, rfl, e4, q⟩ := wx_get h
  refine wx_eq (d := .well ns s c) (ρ' := ρ3) ?_ q
  unfold fWell
  rw [e1]; show ob2 (fb ρ1) _ = _; rw [e2]; show ob2 (fc ρ2) _ = _; rw [e3]
  show (match intsOf ds with | some ns => _ | none => none) = _
  rw [e4]
theorem wx_fnS {F : SF} {k : Nat} {ns : List Int} {o : Ob} {w : SV} {Q : Ob → En → Prop} (e : ρ[k]? = some (.scr ns)) (h : F [.scr ns] = some (.ow o, w)) (q : Q o ρ) : WX (fFnS F k) ρ Q :=
  wx_eq (d := o) (ρ' := ρ) (by unfold fFnS; rw [e]; dsimp only; rw [h]) q
/-- a turn of a comprehension with two fors, and the whole, where the value is only to be had -/
theorem lcL_inv {t : FG} {c : FT} {el : FE} {vs : List Nat} {ds : List D} (I : Nat → List D → En → Prop) (hs : ∀ i d acc ρ, ds[i]? = some d → I i acc ρ → ∃ ρ2, t d ρ = some ρ2 ∧ WX c ρ2 fun b ρ3 => (b = true → WX el ρ3 fun y ρ4 => I (i + 1) (acc ++ [y]) (wipeE ρ4 vs)) ∧ (b = false → I (i + 1) acc (wipeE ρ3 vs))) {acc : List D} {ρ : En} (h0 : I 0 acc ρ) : ∃ acc' ρ', lcL t c el vs ds ρ acc = some (acc', ρ') ∧ I ds.length acc' ρ' := by
  have key : ∀ (n i : Nat) (acc : List D) (ρ : En), ds.length - i = n → i ≤ ds.length → I i acc ρ → ∃ acc' ρ', lcL t c el vs (ds.drop i) ρ acc = some (acc', ρ') ∧ I ds.length acc' ρ' := by
    intro n
    induction n with
    | zero =>
      intro i acc ρ hn hi hI
      have e : i = ds.length := by omega
      subst e
      rw [List.drop_length]
      exact ⟨acc, ρ, rfl, hI⟩
    | succ n ih =>
      intro i acc ρ hn hi hI
      have hlt : i < ds.length := by omega
      rw [List.drop_eq_getElem_cons hlt]
      obtain ⟨ρ2, e2, hb⟩ := hs i ds[i] acc ρ (List.getElem?_eq_getElem hlt) hI
      obtain ⟨b, ρ3, e3, ht, hf⟩ := wx_get hb
      cases b with
      | false =>
        obtain ⟨acc', ρ', e4, h4⟩ := ih (i + 1) acc _ (by omega) (by omega) (hf rfl)
        refine ⟨acc', ρ', ?_, h4⟩
        unfold lcL; rw [e2]; dsimp only; rw [e3]; exact e4
      | true =>
        obtain ⟨y, ρ4, e5, h5⟩ := wx_get (ht rfl)
        obtain ⟨acc', ρ', e4, h4⟩ := ih (i + 1) _ _ (by omega) (by omega) h5
        refine ⟨acc', ρ', ?_, h4⟩
        unfold lcL; rw [e2]; simp only [ob2, e3, if_true, e5]; exact e4
  obtain ⟨acc', ρ', e4, h4⟩ := key ds.length 0 acc _ (by omega) (by omega) h0
  exact ⟨acc', ρ', e4, h4⟩
theorem wx_lc2 {fi fi1 : FL} {t t1 : FG} {c c1 : FT} {el : FE} {vs vs1 : List Nat} {Q : Ob → En → Prop} (h : WX fi ρ fun ds ρ1 => ∃ I : Nat → List D → En → Prop, I 0 [] (wipeE ρ1 vs) ∧
    (∀ i d acc ρ, ds[i]? = some d → I i acc ρ → ∃ ρ2, t d ρ = some ρ2 ∧ WX c ρ2 fun b ρ3 => (b = true → WX fi1 ρ3 fun es ρ4 => acc.length + es.length ≤ 1000000 ∧ ∃ J : Nat → List D → En → Prop, J 0 acc (wipeE ρ4 vs1) ∧
      (∀ i1 d1 acc1 ρ, es[i1]? = some d1 → J i1 acc1 ρ → ∃ ρ2, t1 d1 ρ = some ρ2 ∧ WX c1 ρ2 fun b ρ3 => (b = true → WX el ρ3 fun y ρ4 => J (i1 + 1) (acc1 ++ [y]) (wipeE ρ4 vs1)) ∧ (b = false → J (i1 + 1) acc1 (wipeE ρ3 vs1))) ∧
      ∀ acc1 ρ, J es.length acc1 ρ → I (i + 1) acc1 (wipeE ρ vs)) ∧ (b = false → I (i + 1) acc (wipeE ρ3 vs))) ∧
    ∀ acc ρ, I ds.length acc ρ → Q (.lst acc) (wipeE ρ vs)) : WX (fLc2 fi t c fi1 t1 c1 el vs vs1) ρ Q := by
  obtain ⟨ds, ρ1, e1, I, h0, hs, hd⟩ := wx_get h
  have key : ∀ (n i : Nat) (acc : List D) (ρ : En), ds.length - i = n → i ≤ ds.length → I i acc ρ → ∃ acc' ρ', lcL2 t c fi1 t1 c1 el vs vs1 (ds.drop i) ρ acc = some (acc', ρ') ∧ I ds.length acc' ρ' := by
    intro n
    induction n with
    | zero =>
      intro i acc ρ hn hi hI
      have e : i = ds.length := by omega
      subst e
      rw [List.drop_length]
      exact ⟨acc, ρ, rfl, hI⟩
    | succ n ih =>
      intro i acc ρ hn hi hI
      have hlt : i < ds.length := by omega
      rw [List.drop_eq_getElem_cons hlt]
      obtain ⟨ρ2, e2, hb⟩ := hs i ds[i] acc ρ (List.getElem?_eq_getElem hlt) hI
      obtain ⟨b, ρ3, e3, ht, hf⟩ := wx_get hb
      cases b with
      | false =>
        obtain ⟨acc', ρ', e4, h4⟩ := ih (i + 1) acc _ (by omega) (by omega) (hf rfl)
        refine ⟨acc', ρ', ?_, h4⟩
        unfold lcL2; rw [e2]; dsimp only; rw [e3]; exact e4
      | true =>
        obtain ⟨es, ρ4, e5, hl, J, j0, js, jd⟩ := wx_get (ht rfl)
        obtain ⟨acc1, ρ5, e6, h6⟩ := lcL_inv J js j0
        obtain ⟨acc', ρ', e4, h4⟩ := ih (i + 1) _ _ (by omega) (by omega) (jd _ _ h6)
        refine ⟨acc', ρ', ?_, h4⟩
        unfold lcL2; rw [e2]; simp only [ob2, e3, if_true, e5, if_pos hl, e6]; exact e4
  obtain ⟨acc', ρ', e4, h4⟩ := key ds.length 0 [] _ (by omega) (by omega) h0
  rw [List.drop_zero] at e4
  refine wx_eq (d := .lst acc') (ρ' := wipeE ρ' vs) ?_ (hd _ _ h4)
  unfold fLc2
  rw [e1]
  show ob2 (lcL2 t c fi1 t1 c1 el vs vs1 ds (wipeE ρ1 vs) []) _ = _
  rw [e4]
  rfl
end
end DL

set_option Elab.async false
set_option linter.all false
set_option maxRecDepth 100000
set_option maxHeartbeats 4000000
/-! DL, part y: the script alone, as the law is called. -/
namespace DL
open PySem PySem.Spec PyProof.Rows L2
theorem scr_rl {K : Fr8} {H : Hp} {a : Addr} {ns : List Int} (hS : SqL K H a (ns.map V.int)) : Rl K 0 H H (([V.ref a] : List V).map some) H H [.scr ns] :=
  ⟨Same.refl _, Same.refl _, Same.refl _, fun b o e => .inl e, rfl, fun _ => [], fun i => by
    match i with
    | 0 => exact ⟨rfl, a, rfl, hS⟩
    | i + 1 => rfl, fun i j a hi => by simp at hi, fun i a ha => by simp at ha⟩
end DL

set_option Elab.async false
set_option linter.all false
set_option maxRecDepth 100000
set_option maxHeartbeats 4000000
/-! DL, part z: repr of data; calls with keywords alone; a list times a number; isinstance. -/
namespace DL
open PySem PySem.Spec PyProof.Rows L2
section
variable {X : Cx} {k : Nat} {f : Addr} {fd : FuncData} {ps ks : List Str} {F : SF} {x : Str} {p pos kpos : Pos} {e : Expr} {es : List Expr} {kws : List Keyword} {nm : Option Str}
def okShow (d : D) : Bool := d.showable && !d.hasDict && decide (d.depth ≤ 60) && decide (d.shown.length ≤ 1000000)
def gRepr : List D → Option D
  | [d] => if okShow d = true then some (.str d.shown) else none
  | _ => none
theorem dcl_repr (hgu : X.A.guards = some []) (hu : X.A.units + 64 < cLine) : CallR X (.builtin "repr") (rDc X.K gRepr) := fun pins s σ H vs us Q I rv ⟨S, ds, d, m, r, g, gv⟩ => by
  unfold gRepr at g
  split at g
  · rename_i d0
    split at g
    · rename_i hok
      cases g
      have h1 : d0.showable = true ∧ d0.hasDict = false ∧ d0.depth ≤ 60 ∧ d0.shown.length ≤ 1000000 := by
        simp only [okShow, Bool.and_eq_true, Bool.not_eq_true', decide_eq_true_eq] at hok
        exact ⟨hok.1.1.1, hok.1.1.2, hok.1.2, hok.2⟩
      cases r with
      | cons r1 r2 =>
        cases r2
        obtain ⟨u, rfl, rx⟩ := vals1 rv
        have q := gv.1 (.str d0.shown) (.str _)
        obtain ⟨as, rd⟩ := Rep.reads I m d0 _ _ r1 rx
        cases d0 with
        | none => cases rd; exact PySem.P.repr_of_none ⟨.str _, H, I.tok _, ⟨_, rfl⟩, q⟩
        | bool b => cases rd; exact PySem.P.repr_of_bool ⟨.str _, H, I.tok _, ⟨_, rfl⟩, q⟩
        | int i => cases rd; exact PySem.P.repr_of_int (by simpa [PyData.showable] using h1.1) ⟨.str _, H, I.tok _, ⟨_, rfl⟩, q⟩
        | str y => cases rd; exact PySem.P.repr_of_str ⟨.str _, H, I.tok _, ⟨_, rfl⟩, q⟩ (le_l6 h1.2.2.2)
        | dict kvs => exact absurd h1.2.1 (by simp [PyData.hasDict])
        | list xs =>
          obtain ⟨a, rfl⟩ : ∃ a, u = .ref a := by cases rd; exact ⟨_, rfl⟩
          exact repr_of_reads' rd h1.1 (fun z => by rw [h1.2.1] at z; cases z) hgu (by have := h1.2.2.1; omega) (fun _ _ z => z) (fun h' u' tk hk => ⟨.str _, H, I.kept (t' := tk) hk, ⟨_, rfl⟩, q⟩) (le_l6 h1.2.2.2)
        | tuple xs =>
          obtain ⟨a, rfl⟩ : ∃ a, u = .ref a := by cases rd; exact ⟨_, rfl⟩
          exact repr_of_reads' rd h1.1 (fun z => by rw [h1.2.1] at z; cases z) hgu (by have := h1.2.2.1; omega) (fun _ _ z => z) (fun h' u' tk hk => ⟨.str _, H, I.kept (t' := tk) hk, ⟨_, rfl⟩, q⟩) (le_l6 h1.2.2.2)
    · cases g
  · cases g
theorem bt_repr : bootBuiltins "repr" = some (.builtin "repr") := by decide +kernel
/-! keywords -/
def pick {α : Type} (is : List Nat) (l : List α) : List α := is.filterMap fun i => l[i]?
def pickU (is : List Nat) (us ws : List Value) : List Value := match us with
  | [] => pick is ws
  | _ => []
def pickV (is : List Nat) (us ws : List V) : List V := match us with
  | [] => pick is ws
  | _ => []
theorem vals_get {vs : List V} {us : List Value} (h : Vals vs us) : ∀ i : Nat, (vs[i]? = none ∧ us[i]? = none) ∨ ∃ v u, vs[i]? = some v ∧ us[i]? = some u ∧ RelV v u := by
  induction h with
  | nil => exact fun i => .inl ⟨by simp, by simp⟩
  | cons h1 h2 ih =>
    intro i
    cases i with
    | zero => exact .inr ⟨_, _, rfl, rfl, h1⟩
    | succ i => simpa using ih i
theorem pick_vals {is : List Nat} {vs : List V} {us : List Value} (h : Vals vs us) : Vals (pick is vs) (pick is us) := by
  induction is with
  | nil => exact .nil
  | cons i is ih =>
    unfold pick at ih ⊢
    rcases vals_get h i with ⟨e1, e2⟩ | ⟨v, u, e1, e2, r⟩
    · rw [List.filterMap_cons_none e1, List.filterMap_cons_none e2]; exact ih
    · rw [List.filterMap_cons_some e1, List.filterMap_cons_some e2]; exact .cons r ih
theorem kb_pick {K : Fr8} {is : List Nat} (h : ∀ (s : Shared) (ws : List Value), (pick is ws).length = ps.length → BindsTo s fd ⟨[], ks.zip ws⟩ (ps.zip (pick is ws))) (hp : ps ≠ []) : KBinds K fd ps ks (pickU is) (pickV is) :=
  ⟨fun s us ws _ hl => by
    cases us with
    | nil => exact h s ws hl
    | cons u us => exact absurd (List.eq_nil_of_length_eq_zero hl.symm) hp, fun {vs us zs ws} r rz => by
    cases r with
    | nil => exact pick_vals rz
    | cons _ _ => exact .nil⟩
theorem pk_wk {t t' : TA} (h : PK X kws t) (w : ∀ σ H Q, t' σ H Q → t σ H Q) : PK X kws t' := ⟨fun po pins s σ H Q I q => h.run po pins s σ H Q I (w σ H Q q)⟩
theorem dk_nil : PK X [] (dA X.K fNil) := pk_wk pk_nil fun σ H Q ⟨a0, B, S0, S, ρ, d, ρ', R, f, q⟩ => by
  cases f; exact q [] H S (Same.refl _) R .nil
theorem dk_cons {fa : FE} {fr : FL} (ha : PE X e (dE X.K fa)) (hr : PK X kws (dA X.K fr)) : PK X (⟨nm, e, kpos⟩ :: kws) (dA X.K (fCons fa fr)) :=
  pk_wk (pk_cons ha hr) fun σ H Q ⟨a0, B, S0, S, ρ, d, ρ', R, f, q⟩ => by
    obtain ⟨x, ρ1, e1, f⟩ := ob2_some f
    obtain ⟨y, ρ2, e2, f⟩ := ob2_some f
    cases f
    refine ⟨a0, B, S0, S, ρ, x, ρ1, R, e1, fun v H1 S1 m1 R1 r1 => ?_⟩
    exact ⟨a0, B, S0, S1, ρ1, y, _, R1, e2, fun vs H2 S2 m2 R2 r2 => q _ H2 S2 (m1.trans m2) R2 (.cons (r1.mono m2) r2)⟩
theorem pe_callKG0 {CX : CXT} {sp : Sp} {E : XK} {g : List Value → List Value → List Value} {gV : List V → List V → List V} {tk : TA} (G : FnG X.prog X.w X.K X.mg X.base CX k f fd ps sp) (hgu : X.A.guards = some []) (hr : Room k X.A) (hg : Gl X x) (hm : X.mg x = some (.ref f)) (hk : PySem.W.keepIn X.K (.ref f) = true) (hb : KBinds X.K fd ps ks g gV) (hx : Passes CX X E)
    (hkw : PK X kws tk) (hall : (backToKw pos (keywordEach kws X.env)).all (·.1.isSome) = true := by rfl) (hks : (backToKw pos (keywordEach kws X.env)).filterMap (·.1) = ks := by rfl)
    (hdb : (x == ("__debug__" : Str)) = false := by decide) (hpl : ((backTo pos (starEach [] X.env)).any (·.1) || (backToKw pos (keywordEach kws X.env)).any (·.1.isNone)) = false := by rfl) :
    PE X (.Call (.Name x p) [] kws pos) (fun σ H Q => tk σ H fun zs H2 => sp (gV [] zs) H2 Q E) := by
  refine ⟨fun pins s σ H Q I h => ?_⟩
  refine wpAny_Call_Name_kw (ld_glob I hg hm ?_ hdb)
  refine PySem.W.callWith_KW0 (h₀ := X.base) I.ok.mod.kin hk hall (thn (hkw.run pos pins s σ H _ I h) fun ws s2 ⟨zs, H2, I2, rz, q2⟩ => ⟨I2.kIn, ?_⟩) hpl
  rw [hks]
  exact run_fngK (us := []) (vs := []) G hgu hr hb hx I2 .nil rz q2
theorem pick_repA {K : Fr8} {S : Hp} {is : List Nat} {vs : List V} {ds : List D} (r : RepA K S vs ds) : RepA K S (pick is vs) (pick is ds) := by
  have key : ∀ {vs : List V} {ds : List D}, RepA K S vs ds → ∀ i : Nat, (vs[i]? = none ∧ ds[i]? = none) ∨ ∃ v u, vs[i]? = some v ∧ ds[i]? = some u ∧ Rep K S v u := by
    intro vs
    induction vs with
    | nil => intro ds h i; cases h; exact .inl ⟨by simp, by simp⟩
    | cons v vs ih =>
      intro ds h i
      cases h with
      | cons h1 h2 =>
        cases i with
        | zero => exact .inr ⟨_, _, rfl, rfl, h1⟩
        | succ i => simpa using ih h2 i
  induction is with
  | nil => exact .nil
  | cons i is ih =>
    unfold pick at ih ⊢
    rcases key r i with ⟨e1, e2⟩ | ⟨v, u, e1, e2, r1⟩
    · rw [List.filterMap_cons_none e1, List.filterMap_cons_none e2]; exact ih
    · rw [List.filterMap_cons_some e1, List.filterMap_cons_some e2]; exact .cons r1 ih
/-- f(k = v, ..): as f at the picked -/
def fFnK (F : SF) (is : List Nat) (n : Nat) (fl : FL) : FE := fun ρ => ob2 (fl ρ) fun ds ρ1 => if (pick is ds).length = n then (match F ((pick is ds).map SV.sh) with
  | some (.sh d, _) => some (d, ρ1)
  | _ => none) else none
theorem de_fnK {fl : FL} {is : List Nat} {n : Nat} (G : FnD X.prog X.w X.K X.mg X.base k f fd ps F) (hgu : X.A.guards = some []) (hr : Room k X.A) (hn : ps.length = n) (hg : Gl X x) (hm : X.mg x = some (.ref f)) (hk : PySem.W.keepIn X.K (.ref f) = true) (hb : KBinds X.K fd ps ks (pickU is) (pickV is))
    (hkw : PK X kws (dA X.K fl)) (hall : (backToKw pos (keywordEach kws X.env)).all (·.1.isSome) = true := by rfl) (hks : (backToKw pos (keywordEach kws X.env)).filterMap (·.1) = ks := by rfl)
    (hdb : (x == ("__debug__" : Str)) = false := by decide) (hpl : ((backTo pos (starEach [] X.env)).any (·.1) || (backToKw pos (keywordEach kws X.env)).any (·.1.isNone)) = false := by rfl) :
    PE X (.Call (.Name x p) [] kws pos) (dE X.K (fFnK F is n fl)) :=
  pe_wk (pe_callKG0 G hgu hr hg hm hk hb pass0 hkw hall hks hdb hpl) fun σ H Q ⟨a0, B, S0, S, ρ, d, ρ', R, f, q⟩ => by
    obtain ⟨ds, ρ1, e1, f⟩ := ob2_some f
    split at f
    · rename_i hl
      split at f
      · rename_i d' sw e2
        cases f
        refine ⟨a0, B, S0, S, ρ, ds, _, R, e1, fun vs H1 S1 m1 R1 r1 => ?_⟩
        have r2 := pick_repA (is := is) r1
        refine ⟨0, H1, S1, _, _, _, by show (pick is vs).length = _; rw [r2.length, hl, hn], r2.slots R1.sh (Same.refl _), e2, fun v H2 S2 m2 R2 => ?_⟩
        obtain ⟨_, e3, rv⟩ := R2.top_sh
        cases e3
        exact q v H2 S2 (m1.trans m2) (rl_back R1 R2) rv
      · cases f
    · cases f
theorem wx_fnK {ρ : En} {fl : FL} {is : List Nat} {n : Nat} {Q : D → En → Prop} (h : WX fl ρ fun ds ρ1 => (pick is ds).length = n ∧ ∃ d w, F ((pick is ds).map SV.sh) = some (.sh d, w) ∧ Q d ρ1) : WX (fFnK F is n fl) ρ Q := by
  obtain ⟨ds, ρ1, e1, hl, d, w, e2, q⟩ := wx_get h
  refine wx_eq (d := d) (ρ' := ρ1) ?_ q
  unfold fFnK
  rw [e1]; show (if (pick is ds).length = n then (match F ((pick is ds).map SV.sh) with | some (.sh d, _) => some (d, ρ1) | _ => none) else none) = _
  rw [if_pos hl, e2]
/-! texts that are equal or not -/
def gEqS : D → D → Option Bool
  | .str x, .str y => some (decide (x = y))
  | _, _ => none
def gNeS : D → D → Option Bool
  | .str x, .str y => some (!decide (x = y))
  | _, _ => none
theorem dcm_eqS : OpR X (compareOp .Eq) (rDb X.K gEqS) := opr_wk op_eq fun x y H Q ⟨S, dx, dy, d, m, rx, ry, g, q⟩ => by
  unfold gEqS at g
  split at g
  · rename_i a b
    cases g; cases rx; cases ry
    refine ⟨rfl, ?_⟩
    have : decide (V.str a = V.str b) = decide (a = b) := by rw [Bool.eq_iff_iff]; simp
    rw [this]; exact q
  · cases g
theorem dcm_neS : OpR X (compareOp .NotEq) (rDb X.K gNeS) := opr_wk op_ne fun x y H Q ⟨S, dx, dy, d, m, rx, ry, g, q⟩ => by
  unfold gNeS at g
  split at g
  · rename_i a b
    cases g; cases rx; cases ry
    refine ⟨rfl, ?_⟩
    have : decide (V.str a = V.str b) = decide (a = b) := by rw [Bool.eq_iff_iff]; simp
    rw [this]; exact q
  · cases g
theorem gNeS_same (x : Str) : gNeS (.str x) (.str x) = some false := by
  show some (!decide (x = x)) = _
  rw [decide_eq_true rfl]; rfl
/-! a list times a number -/
def gMulL : D → D → Option D
  | .list ds, .int n => if ds.length ≤ 1000 ∧ 0 ≤ n ∧ n ≤ 1000 then some (.list (List.replicate n.toNat ds).flatten) else none
  | _, _ => none
theorem dop_mulL : OpR X (binaryOp .Mult) (rD X.K gMulL) := opr_wk op_rep fun x y H Q ⟨S, dx, dy, d, m, rx, ry, g, gv⟩ => by
  unfold gMulL at g
  split at g
  · split at g
    · rename_i ds n hl
      cases g; cases ry
      cases rx with
      | lst h1 r1 =>
        refine ⟨_, _, _, rfl, rfl, m _ _ h1, by omega, by omega, ?_, fun q hq => gv.2 q _ hq (rep_lst_up m hq (r1.rep _))⟩
        rw [r1.length]
        exact le_l6 (Nat.mul_le_mul hl.1 (by omega : n.toNat ≤ 1000))
    · cases g
  · cases g
end
end DL

set_option Elab.async false
set_option linter.all false
set_option maxRecDepth 100000
set_option maxHeartbeats 4000000
/-! DL, part s: small data can be shown. -/
namespace DL
open PySem PySem.Spec PyProof.Rows L2
mutual
def smD : D → Bool
  | .none | .bool _ => true
  | .int i => decide (i.natAbs < 10 ^ 30)
  | .list xs | .tuple xs => smL xs
  | _ => false
def smL : List D → Bool
  | [] => true
  | x :: xs => smD x && smL xs
end
mutual
def szD : D → Nat
  | .none => 4
  | .bool _ => 5
  | .int _ => 31
  | .list xs | .tuple xs => 4 + szL xs
  | _ => 0
def szL : List D → Nat
  | [] => 0
  | x :: xs => szD x + 2 + szL xs
end
theorem tf_le : ∀ (ts : List Str) (k : Nat) (acc : Str), (textFrom k acc ts).length ≤ acc.length + piled ts
  | [], k, acc => by show acc.length ≤ acc.length + 0; omega
  | t :: r, k, acc => by
    have h := tf_le r (k + 1) (acc ++ (if k > 0 then ", " else "" : String) ++ t)
    have e : (acc ++ (if k > 0 then ", " else "" : String) ++ t).length = acc.length + (if k > 0 then 2 else 0) + t.length := by
      rw [strLen_append, strLen_append]
      split <;> rfl
    rw [e] at h
    rw [piled_cons]
    show (textFrom (k + 1) _ r).length ≤ _
    have : (if k > 0 then 2 else 0 : Nat) ≤ 2 := by split <;> omega
    omega
theorem lt_le (ts : List Str) : (listText ts).length ≤ piled ts + 2 := by
  unfold listText
  rw [strLen_append]
  have h := tf_le ts 0 "["
  have e1 : ("[" : Str).length = 1 := by decide
  have e2 : ("]" : Str).length = 1 := by decide
  omega
theorem tt_le (ts : List Str) : (tupleText ts).length ≤ piled ts + 3 := by
  unfold tupleText
  rw [strLen_append, strLen_append]
  have e1 : ("(" : Str).length = 1 := by decide
  have e2 : ((if ts.length == 1 then ",)" else ")" : String) : Str).length ≤ 2 := by split <;> decide
  have e3 : (Str.join ", " ts).length ≤ piled ts := by
    by_cases h : ts = []
    · subst h; decide
    · have := join_length_add ts h; omega
  omega
mutual
theorem smD_ok : ∀ d : D, smD d = true → d.showable = true ∧ d.hasDict = false ∧ d.shown.length ≤ szD d
  | .none, _ => ⟨rfl, rfl, by decide⟩
  | .bool b, _ => ⟨rfl, rfl, by cases b <;> decide⟩
  | .int i, h => by
    have h : i.natAbs < 10 ^ 30 := of_decide_eq_true h
    have h2 : i.natAbs.log2 < 1920 := by
      by_cases z : i.natAbs = 0
      · rw [z]; decide
      · rw [Nat.log2_lt z]
        exact Nat.lt_trans h (by decide +kernel)
    refine ⟨decide_eq_true h2, rfl, ?_⟩
    show (Str.ofString (toString i)).length ≤ 31
    rw [PySem.ofString_length]
    exact int_text_length_le10 (k := 30) (by decide) h
  | .str x, h => by cases h
  | .dict kvs, h => by cases h
  | .list xs, h => by
    have := smL_ok xs h
    refine ⟨this.1, this.2.1, ?_⟩
    show (listText (PyData.shownAll xs)).length ≤ 4 + szL xs
    have := lt_le (PyData.shownAll xs)
    omega
  | .tuple xs, h => by
    have := smL_ok xs h
    refine ⟨this.1, this.2.1, ?_⟩
    show (tupleText (PyData.shownAll xs)).length ≤ 4 + szL xs
    have := tt_le (PyData.shownAll xs)
    omega
theorem smL_ok : ∀ ds : List D, smL ds = true → PyData.showableAll ds = true ∧ PyData.hasDictAll ds = false ∧ piled (PyData.shownAll ds) ≤ szL ds
  | [], _ => ⟨rfl, rfl, by decide⟩
  | d :: ds, h => by
    have h : smD d = true ∧ smL ds = true := by simpa [smL] using h
    have h1 := smD_ok d h.1
    have h2 := smL_ok ds h.2
    refine ⟨by simp [PyData.showableAll, h1.1, h2.1], by simp [PyData.hasDictAll, h1.2.1, h2.2.1], ?_⟩
    show piled (d.shown :: PyData.shownAll ds) ≤ szD d + 2 + szL ds
    rw [piled_cons]
    omega
end
theorem show_ok {d : D} (h : smD d = true) (hd : d.depth ≤ 60) (hs : szD d ≤ 1000000) : gRepr [d] = some (.str d.shown) := by
  obtain ⟨h1, h2, h3⟩ := smD_ok d h
  show (if okShow d = true then some (PyData.str d.shown) else none) = _
  rw [if_pos]
  unfold okShow
  rw [h1, h2, decide_eq_true hd, decide_eq_true (Nat.le_trans h3 hs)]
  rfl
/-- tuples of numbers -/
theorem smL_ints {xs : List Int} (h : ∀ x ∈ xs, x.natAbs < 10 ^ 30) : smL (xs.map PyData.int) = true := by
  induction xs with
  | nil => rfl
  | cons x xs ih =>
    show (decide (x.natAbs < 10 ^ 30) && smL (xs.map PyData.int)) = true
    rw [decide_eq_true (h x List.mem_cons_self), ih fun y hy => h y (List.mem_cons_of_mem _ hy)]; rfl
theorem szL_ints : ∀ xs : List Int, szL (xs.map PyData.int) = 33 * xs.length
  | [] => rfl
  | x :: xs => by
    show 31 + 2 + szL (xs.map PyData.int) = _
    rw [szL_ints xs, List.length_cons]; omega
theorem dpL_ints : ∀ xs : List Int, PyData.depthAll (xs.map PyData.int) ≤ 1
  | [] => by decide
  | x :: xs => by
    have := dpL_ints xs
    show max _ (PyData.depthAll (xs.map PyData.int)) ≤ 1
    have e : (PyData.int x).depth ≤ 1 := by simp [PyData.depth]
    omega
end DL

set_option Elab.async false
set_option linter.all false
set_option maxRecDepth 100000
set_option maxHeartbeats 4000000
/-! printed by gen.py: defs that several laws share, as functions over data -/
namespace Near
open PySem L2 DL
def b_differences : FS :=
    (bRet (fFrz (fSortO (fDictO (fCons (fFrz (fLc2 (fIt (fVar 1)) (gtN 2) fYes (fIt (fVar 0)) (gtN 3) fYes (fTup (fCons (fOp gSub (fVar 2) (fVar 3)) (fCons (fC (.bool true)) fNil))) [2, 3] [3])) fNil)))))
def F_differences : SF := runD 4 b_differences
def b_table_for : FS :=
    (bSeq (bAsg (gtT 3 (gtCons (gtN 4) (gtCons (gtN 5) (gtCons (gtN 6) gtNil)))) (fVar 2))
    (bSeq (bSetO 7 (fLstO (fCons (fOp gMul (fTup (fCons (fC (.int 0)) fNil)) (fOp gAdd (fCall gLen (fCons (fVar 1) fNil)) (fC (.int 1)))) fNil)))
    (bSeq (bFor (fIt (fRev (fVar 0))) (gtN 8) (bSeq (bPar 9 10 (xS (fIxO 7 (fNeg (fC (.int 1))))) (xO (fLstO (fCons (fOp gAdd (fVar 4) (fOp gIx (fIxO 7 (fNeg (fC (.int 1)))) (fNeg (fC (.int 1))))) fNil))))
    (bSeq (bFor (fR3 (fCons (fOp gSub (fCall gLen (fCons (fVar 1) fNil)) (fC (.int 1))) (fCons (fNeg (fC (.int 1))) (fCons (fNeg (fC (.int 1))) fNil)))) (gtN 11) (bSeq (bSet 12 (fIf (fAnd (fCmp gNotN (fVar 3) (fC .none)) (fCmp gEq (fOp gIx (fVar 1) (fVar 11)) (fOp gAdd (fVar 8) (fVar 3)))) (fC (.int 0)) (fVar 6)))
    (bDrop (fMt 10 gAppend (fCons (fCall gMin (fCons (fOp gAdd (fVar 4) (fOp gIx (fVar 9) (fVar 11))) (fCons (fOp gAdd (fVar 5) (fIxO 10 (fNeg (fC (.int 1))))) (fCons (fOp gAdd (fVar 12) (fOp gIx (fVar 9) (fOp gAdd (fVar 11) (fC (.int 1))))) fNil)))) fNil)))))
    (bDrop (fMt 7 gAppend (fCons (fCall gTup (fCons (fRevO 10) fNil)) fNil))))))
    (bRet (fCall gTup (fCons (fRevO 7) fNil))))))
def F_table_for : SF := runD 13 b_table_for
def b_near_price : FS :=
    (bRet (fCall gMin (fCons (fOp gIx (fFn F_table_for (fCons (fVar 0) (fCons (fVar 1) (fCons (fVar 2) (fCons (fVar 3) fNil))))) (fC (.int 0))) fNil)))
def F_near_price : SF := runD 4 b_near_price
def b_end_of : FS :=
    (bSeq (bAsg (gtT 3 (gtCons (gtN 4) (gtCons (gtN 5) (gtCons (gtN 6) gtNil)))) (fVar 2))
    (bSeq (bPar 7 8 (xS (fC (.int 0))) (xS (fVar 3)))
    (bSeq (bWhile 1000 (fCmp gLt (fVar 7) (fCall gLen (fCons (fVar 0) fNil))) (bSeq (bSet 9 (fOp gIx (fOp gIx (fVar 1) (fVar 7)) (fVar 8)))
    (bIf (fCmp gEq (fVar 9) (fOp gAdd (fVar 4) (fOp gIx (fOp gIx (fVar 1) (fOp gAdd (fVar 7) (fC (.int 1)))) (fVar 8)))) (bSet 7 (fOp gAdd (fVar 7) (fC (.int 1)))) (bIf (fCmp gEq (fVar 9) (fOp gAdd (fVar 5) (fOp gIx (fOp gIx (fVar 1) (fVar 7)) (fOp gAdd (fVar 8) (fC (.int 1)))))) (bSet 8 (fOp gAdd (fVar 8) (fC (.int 1)))) (bPar 7 8 (xS (fOp gAdd (fVar 7) (fC (.int 1)))) (xS (fOp gAdd (fVar 8) (fC (.int 1)))))))))
    (bRet (fVar 8)))))
def F_end_of : SF := runD 10 b_end_of
def b_near : FS :=
    (bSeq (bSet 3 (fC .none))
    (bSeq (bFor (fIt (fOp gAdd (fLst (fCons (fC (.int 0)) fNil)) (fFn F_differences (fCons (fVar 0) (fCons (fVar 1) fNil))))) (gtN 4) (bSeq (bSet 5 (fFn F_table_for (fCons (fVar 0) (fCons (fVar 1) (fCons (fVar 2) (fCons (fVar 4) fNil))))))
    (bSeq (bSet 6 (fCall gMin (fCons (fOp gIx (fVar 5) (fC (.int 0))) fNil)))
    (bIf (fOr (fCmp gIsN (fVar 3) (fC .none)) (fCmp gLt (fVar 6) (fOp gIx (fVar 3) (fC (.int 0))))) (bSeq (bSet 7 (fBmT gIndex (fOp gIx (fVar 5) (fC (.int 0))) (fCons (fVar 6) fNil)))
    (bSet 3 (fTup (fCons (fVar 6) (fCons (fVar 4) (fCons (fVar 7) (fCons (fFn F_end_of (fCons (fVar 0) (fCons (fVar 5) (fCons (fVar 2) (fCons (fVar 7) fNil))))) fNil))))))) bNil))))
    (bRet (fVar 3))))
def F_near : SF := runD 8 b_near
def b_law_well : FS :=
    (bSeq (bPar 1 2 (xS (fFrz (fLc (fIt (fSlS 0 fNoP (fPart (fC (.int 63))))) (gtN 3) fYes (fOp gAdd (fOp gMul (fC (.int 2)) (fCall gAbs (fCons (fVar 3) fNil))) (fCall gInt (fCons (fBl (fCmp gLt (fVar 3) (fC (.int 0)))) fNil))) [3]))) (xS (fOp gAdd (fC (.int 52711)) (fLenS 0))))
    (bSeq (bFor (fIt (fVar 1)) (gtN 3) (bSet 2 (fOp gMod (fCall gInt (fCons (fOp gAdd (fOp gMul (fVar 2) (fC (.int 69069))) (fVar 3)) fNil)) (fC (.int 4294967291)))))
    (bRetO (fWell (fLc (fIt (fVar 1)) (gtN 3) (fCmp gGt (fVar 3) (fOp gPow (fC (.int 10)) (fC (.int 15)))) (fVar 3) [3]) (fVar 2) (fC (.int 0))))))
def F_law_well : SF := runD 4 b_law_well
def b_law_pick : FS :=
    (bRet (fOp gIx (fVar 1) (fFnW Fdraw 0 (fCons (fCall gLen (fCons (fVar 1) fNil)) fNil))))
def F_law_pick : SF := runD 2 b_law_pick
def b_law_ways (Fself : SF) : FS :=
    (bSeq (bAsg (gtT 3 (gtCons (gtN 7) (gtCons (gtN 8) (gtCons (gtN 9) gtNil)))) (fVar 2))
    (bSeq (bIf (fCmp gEq (fVar 4) (fCall gLen (fCons (fVar 0) fNil))) (bRet (fOp gMul (fVar 8) (fOp gSub (fVar 6) (fVar 5)))) bNil)
    (bSeq (bSet 10 (fOp gAdd (fVar 7) (fFn Fself (fCons (fVar 0) (fCons (fVar 1) (fCons (fVar 2) (fCons (fVar 3) (fCons (fOp gAdd (fVar 4) (fC (.int 1))) (fCons (fVar 5) (fCons (fVar 6) fNil))))))))))
    (bSeq (bFor (fR2 (fCons (fVar 5) (fCons (fVar 6) fNil))) (gtN 11) (bSeq (bSet 12 (fIf (fAnd (fCmp gNotN (fVar 3) (fC .none)) (fCmp gEq (fOp gIx (fVar 1) (fVar 11)) (fOp gAdd (fOp gIx (fVar 0) (fVar 4)) (fVar 3)))) (fC (.int 0)) (fVar 9)))
    (bSet 10 (fCall gMin (fCons (fVar 10) (fCons (fOp gAdd (fOp gAdd (fOp gMul (fVar 8) (fOp gSub (fVar 11) (fVar 5))) (fVar 12)) (fFn Fself (fCons (fVar 0) (fCons (fVar 1) (fCons (fVar 2) (fCons (fVar 3) (fCons (fOp gAdd (fVar 4) (fC (.int 1))) (fCons (fOp gAdd (fVar 11) (fC (.int 1))) (fCons (fVar 6) fNil))))))))) fNil))))))
    (bRet (fVar 10))))))
def F_law_ways : Nat → SF
  | 0 => fun _ => none
  | m + 1 => runD 13 (b_law_ways (F_law_ways m))
def b_law_differences : FS :=
    (bSeq (bSetO 2 fD0)
    (bSeq (bFor (fIt (fVar 0)) (gtN 3) (bFor (fIt (fVar 1)) (gtN 4) (bDPut 2 (fOp gSub (fVar 4) (fVar 3)) (fC (.bool true)))))
    (bRet (fFrz (fSortK 2)))))
def F_law_differences : SF := runD 5 b_law_differences
def b_law_items : FS :=
    (bSeq (bAsg (gtT 2 (gtCons (gtN 2) (gtCons (gtN 3) gtNil))) (fTup (fCons (fFnW Fdraw 0 (fCons (fC (.int 100)) fNil)) (fCons (fFnW F_law_pick 0 (fCons (fLst (fCons (fC (.int 1)) (fCons (fC (.int 2)) (fCons (fC (.int 3)) (fCons (fC (.int 5)) (fCons (fC (.int 28)) fNil)))))) fNil)) fNil))))
    (bRet (fCall gTup (fCons (fFrz (fLc (fR1 (fCons (fVar 1) fNil)) (gtN 4) fYes (fOp gAdd (fVar 2) (fFnW Fdraw 0 (fCons (fVar 3) fNil))) [4])) fNil))))
def F_law_items : SF := runD 5 b_law_items
def b_law_prices : FS :=
    (bRet (fCall gTup (fCons (fFrz (fLc (fR1 (fCons (fC (.int 3)) fNil)) (gtN 1) fYes (fFnW F_law_pick 0 (fCons (fLst (fCons (fC (.int 0)) (fCons (fC (.int 1)) (fCons (fC (.int 1)) (fCons (fC (.int 2)) (fCons (fC (.int 3)) (fCons (fC (.int 5)) (fCons (fC (.int 9)) fNil)))))))) fNil)) [1])) fNil)))
def F_law_prices : SF := runD 2 b_law_prices
def b_law_asked : FS :=
    (bSeq (bSet 3 (fFnW F_law_items 0 (fCons (fOp gAdd (fC (.int 1)) (fFnW Fdraw 0 (fCons (fVar 1) fNil))) fNil)))
    (bSeq (bPar 4 5 (xS (fFnW F_law_items 0 (fCons (fFnW Fdraw 0 (fCons (fOp gAdd (fVar 2) (fC (.int 1))) fNil)) fNil))) (xS (fFnW Fdraw 0 (fCons (fC (.int 3)) fNil))))
    (bSeq (bIf (fCmp gGt (fVar 5) (fC (.int 0))) (bSeq (bAsg (gtT 2 (gtCons (gtN 6) (gtCons (gtN 7) gtNil))) (fTup (fCons (fOp gSub (fFnW Fdraw 0 (fCons (fC (.int 25)) fNil)) (fC (.int 12))) (fCons (fCall gMin (fCons (fVar 3) fNil)) fNil))))
    (bSeq (bSetO 8 (fLc (fIt (fVar 3)) (gtN 10) fYes (fCall gMax (fCons (fC (.int 0)) (fCons (fCall gMin (fCons (fC (.int 127)) (fCons (fOp gAdd (fVar 10) (fVar 6)) fNil))) fNil))) [10]))
    (bSeq (bFor (fR1 (fCons (fFnW Fdraw 0 (fCons (fC (.int 3)) fNil)) fNil)) (gtN 9) (bDrop (fMt 8 gInsert (fCons (fFnW Fdraw 0 (fCons (fOp gAdd (fOwnC 8 gLenL) (fC (.int 1))) fNil)) (fCons (fVar 7) fNil)))))
    (bSet 4 (fCall gTup (fCons (fSlO 8 fNoP (fPart (fVar 2))) fNil)))))) bNil)
    (bRet (fTup (fCons (fVar 3) (fCons (fVar 4) (fCons (fFnW F_law_prices 0 fNil) fNil))))))))
def F_law_asked : SF := runD 11 b_law_asked
end Near

set_option Elab.async false
set_option linter.all false
set_option maxRecDepth 100000
set_option maxHeartbeats 4000000
/-! near lines, plainly: the least price (cst) and the ways gone through (wy) -/
namespace Near
def cstR (l q : Int) (dp : Int → Int) (below : List Int → Int) : List Int → Int
  | [] => l + below []
  | o :: os => min (min (l + below (o :: os)) (q + cstR l q dp below os)) (dp o + below os)
def cst (l q : Int) (d : Int → Int → Int) : List Int → List Int → Int
  | [], _ => 0
  | p :: ps, os => cstR l q (fun o => d o p) (cst l q d ps) os
section
variable {l q : Int} {d : Int → Int → Int}
theorem cst_nil (p : Int) (ps : List Int) : cst l q d (p :: ps) [] = l + cst l q d ps [] := rfl
theorem cst_cons (p o : Int) (ps os : List Int) : cst l q d (p :: ps) (o :: os) = min (min (l + cst l q d ps (o :: os)) (q + cst l q d (p :: ps) os)) (d o p + cst l q d ps os) := rfl
theorem cst_le_l (p : Int) (ps os : List Int) : cst l q d (p :: ps) os ≤ l + cst l q d ps os := by
  cases os with
  | nil => rw [cst_nil]; exact Int.le_refl _
  | cons o os => rw [cst_cons]; omega
theorem cst_le_q (o : Int) (ps os : List Int) (hq : 0 ≤ q) : cst l q d ps (o :: os) ≤ q + cst l q d ps os := by
  cases ps with
  | nil => show (0 : Int) ≤ q + 0; omega
  | cons p ps => rw [cst_cons]; omega
theorem cst_le_d (p o : Int) (ps os : List Int) : cst l q d (p :: ps) (o :: os) ≤ d o p + cst l q d ps os := by
  rw [cst_cons]; omega
theorem cst_le_drop (hq : 0 ≤ q) (ps : List Int) : ∀ (k : Nat) (os : List Int), k ≤ os.length → cst l q d ps os ≤ q * k + cst l q d ps (os.drop k)
  | 0, os, _ => by simp
  | k + 1, [], h => by simp at h
  | k + 1, o :: os, h => by
    have h1 := cst_le_drop hq ps k os (by simpa using h)
    have h2 := cst_le_q (l := l) (d := d) o ps os hq
    rw [List.drop_succ_cons]
    have e : q * ((k + 1 : Nat) : Int) = q * (k : Int) + q := by rw [Int.natCast_add, Int.mul_add]; simp
    omega
theorem cst_nonneg (hl : 0 ≤ l) (hq : 0 ≤ q) (hd : ∀ o p, 0 ≤ d o p) : ∀ (ps os : List Int), 0 ≤ cst l q d ps os
  | [], _ => Int.le_refl _
  | p :: ps, os => by
    induction os with
    | nil => rw [cst_nil]; have := cst_nonneg hl hq hd ps []; omega
    | cons o os ih =>
      rw [cst_cons]
      have h1 := cst_nonneg hl hq hd ps (o :: os)
      have h2 := cst_nonneg hl hq hd ps os
      have h3 := hd o p
      omega
theorem cst_le_all (hl : 0 ≤ l) : ∀ (ps os : List Int), cst l q d ps os ≤ l * ps.length
  | [], _ => by show (0 : Int) ≤ l * ((0 : Nat) : Int); simp
  | p :: ps, os => by
    have h1 := cst_le_l (l := l) (q := q) (d := d) p ps os
    have h2 := cst_le_all hl ps os
    have e : l * (((p :: ps).length : Nat) : Int) = l * (ps.length : Int) + l := by rw [List.length_cons, Int.natCast_add, Int.mul_add]; simp
    omega
theorem cst_mono {l' q' : Int} {d' : Int → Int → Int} (hl : l ≤ l') (hq : q ≤ q') (hd : ∀ o p, d o p ≤ d' o p) : ∀ (ps os : List Int), cst l q d ps os ≤ cst l' q' d' ps os
  | [], _ => Int.le_refl _
  | p :: ps, os => by
    induction os with
    | nil => rw [cst_nil, cst_nil]; have := cst_mono hl hq hd ps []; omega
    | cons o os ih =>
      rw [cst_cons, cst_cons]
      have h1 := cst_mono hl hq hd ps (o :: os)
      have h2 := cst_mono hl hq hd ps os
      have h3 := hd o p
      omega
/-- only what is looked at counts -/
theorem cst_congr {d' : Int → Int → Int} : ∀ (ps os : List Int), (∀ o ∈ os, ∀ p ∈ ps, d o p = d' o p) → cst l q d ps os = cst l q d' ps os
  | [], _, _ => rfl
  | p :: ps, os, h => by
    induction os with
    | nil => rw [cst_nil, cst_nil, cst_congr ps [] (fun o ho => by simp at ho)]
    | cons o os ih =>
      rw [cst_cons, cst_cons, ih (fun o' ho p' hp => h o' (List.mem_cons_of_mem _ ho) p' hp), cst_congr ps (o :: os) (fun o' ho p' hp => h o' ho p' (List.mem_cons_of_mem _ hp)),
        cst_congr ps os (fun o' ho p' hp => h o' (List.mem_cons_of_mem _ ho) p' (List.mem_cons_of_mem _ hp)), h o List.mem_cons_self p List.mem_cons_self]
theorem cst_mono' {l' q' : Int} {d' : Int → Int → Int} (hl : l ≤ l') (hq : q ≤ q') : ∀ (ps os : List Int), (∀ o ∈ os, ∀ p ∈ ps, d o p ≤ d' o p) → cst l q d ps os ≤ cst l' q' d' ps os
  | [], _, _ => Int.le_refl _
  | p :: ps, os, h => by
    induction os with
    | nil => rw [cst_nil, cst_nil]; have := cst_mono' (d' := d') hl hq ps [] (fun o ho => by simp at ho); omega
    | cons o os ih =>
      rw [cst_cons, cst_cons]
      have h0 := ih (fun o' ho p' hp => h o' (List.mem_cons_of_mem _ ho) p' hp)
      have h1 := cst_mono' hl hq ps (o :: os) (fun o' ho p' hp => h o' ho p' (List.mem_cons_of_mem _ hp))
      have h2 := cst_mono' hl hq ps os (fun o' ho p' hp => h o' (List.mem_cons_of_mem _ ho) p' (List.mem_cons_of_mem _ hp))
      have h3 := h o List.mem_cons_self p List.mem_cons_self
      omega
theorem cst_twice : ∀ (ps os : List Int), cst (2 * l) (2 * q) (fun o p => 2 * d o p) ps os = 2 * cst l q d ps os
  | [], _ => rfl
  | p :: ps, os => by
    induction os with
    | nil => rw [cst_nil, cst_nil, cst_twice ps []]; omega
    | cons o os ih => rw [cst_cons, cst_cons, ih, cst_twice ps (o :: os), cst_twice ps os]; omega

/-! the ways -/
def wyF (l q : Int) (dp : Int → Int) (w : List Int → Int) (os : List Int) : Int :=
  (List.range os.length).foldl (fun (f : Int) (k : Nat) => min f (q * (k : Int) + dp (os.getD k 0) + w (os.drop (k + 1)))) (l + w os)
def wy (l q : Int) (d : Int → Int → Int) : List Int → List Int → Int
  | [], os => q * os.length
  | p :: ps, os => wyF l q (fun o => d o p) (wy l q d ps) os
theorem foldmin_le (f : Nat → Int) : ∀ (ks : List Nat) (a : Int), ks.foldl (fun x k => min x (f k)) a ≤ a ∧ ∀ k ∈ ks, ks.foldl (fun x k => min x (f k)) a ≤ f k
  | [], a => ⟨Int.le_refl _, fun k hk => by simp at hk⟩
  | x :: ks, a => by
    have h := foldmin_le f ks (min a (f x))
    rw [List.foldl_cons]
    refine ⟨by omega, fun k hk => ?_⟩
    rcases List.mem_cons.mp hk with rfl | hk
    · omega
    · exact h.2 k hk
theorem foldmin_is (f : Nat → Int) : ∀ (ks : List Nat) (a : Int), ks.foldl (fun x k => min x (f k)) a = a ∨ ∃ k ∈ ks, ks.foldl (fun x k => min x (f k)) a = f k
  | [], a => .inl rfl
  | x :: ks, a => by
    rw [List.foldl_cons]
    rcases foldmin_is f ks (min a (f x)) with h | ⟨k, hk, h⟩
    · rw [h]
      by_cases hle : a ≤ f x
      · exact .inl (by omega)
      · exact .inr ⟨x, List.mem_cons_self, by omega⟩
    · exact .inr ⟨k, List.mem_cons_of_mem _ hk, h⟩
theorem wy_le_l (p : Int) (ps os : List Int) : wy l q d (p :: ps) os ≤ l + wy l q d ps os := (foldmin_le _ _ _).1
theorem wy_le_k (p : Int) (ps os : List Int) {k : Nat} (h : k < os.length) : wy l q d (p :: ps) os ≤ q * (k : Int) + d (os.getD k 0) p + wy l q d ps (os.drop (k + 1)) := (foldmin_le _ _ _).2 k (List.mem_range.mpr h)
theorem wy_is (p : Int) (ps os : List Int) : wy l q d (p :: ps) os = l + wy l q d ps os ∨ ∃ k, k < os.length ∧ wy l q d (p :: ps) os = q * (k : Int) + d (os.getD k 0) p + wy l q d ps (os.drop (k + 1)) := by
  rcases foldmin_is (fun k => q * (k : Int) + d (os.getD k 0) p + wy l q d ps (os.drop (k + 1))) (List.range os.length) (l + wy l q d ps os) with h | ⟨k, hk, h⟩
  · exact .inl h
  · exact .inr ⟨k, List.mem_range.mp hk, h⟩
theorem mul_succ' (q : Int) (n : Nat) : q * ((n + 1 : Nat) : Int) = q * (n : Int) + q := by rw [Int.natCast_add, Int.mul_add]; simp
theorem wy_put (ps : List Int) : ∀ (o : Int) (os : List Int), wy l q d ps (o :: os) ≤ q + wy l q d ps os := by
  induction ps with
  | nil =>
    intro o os
    show q * (((o :: os).length : Nat) : Int) ≤ q + q * (os.length : Int)
    rw [List.length_cons, mul_succ']; omega
  | cons p ps ih =>
    intro o os
    rcases wy_is (l := l) (q := q) (d := d) p ps os with h | ⟨k, hk, h⟩
    · have h1 := wy_le_l (l := l) (q := q) (d := d) p ps (o :: os)
      have h2 := ih o os
      omega
    · have h1 := wy_le_k (l := l) (q := q) (d := d) p ps (o :: os) (k := k + 1) (by simpa using hk)
      rw [List.getD_cons_succ, List.drop_succ_cons, mul_succ'] at h1
      omega
theorem cst_le_wy (hq : 0 ≤ q) : ∀ (ps os : List Int) (e : Nat), cst l q d ps os ≤ wy l q d ps (os.take e)
  | [], os, e => by
    show (0 : Int) ≤ q * ((os.take e).length : Int)
    exact Int.mul_nonneg hq (by omega)
  | p :: ps, os, e => by
    rcases wy_is (l := l) (q := q) (d := d) p ps (os.take e) with h | ⟨k, hk, h⟩
    · have h1 := cst_le_wy hq ps os e
      have h2 := cst_le_l (l := l) (q := q) (d := d) p ps os
      omega
    · have hk2 : k < os.length ∧ k < e := by rw [List.length_take] at hk; omega
      have h1 := cst_le_wy hq ps (os.drop (k + 1)) (e - (k + 1))
      have e1 : (os.take e).drop (k + 1) = (os.drop (k + 1)).take (e - (k + 1)) := List.drop_take
      rw [e1] at h
      have e2 : (os.take e).getD k 0 = os[k] := by
        rw [List.getD_eq_getElem?_getD, List.getElem?_take_of_lt hk2.2, List.getElem?_eq_getElem hk2.1]; rfl
      rw [e2] at h
      have h2 := cst_le_drop (l := l) (d := d) hq (p :: ps) k os (by omega)
      rw [List.drop_eq_getElem_cons hk2.1] at h2
      have h3 := cst_le_d (l := l) (q := q) (d := d) p os[k] ps (os.drop (k + 1))
      omega
theorem wy_le_cst : ∀ (ps os : List Int), ∃ e, e ≤ os.length ∧ wy l q d ps (os.take e) ≤ cst l q d ps os
  | [], os => ⟨0, Nat.zero_le _, by show q * (([] : List Int).length : Int) ≤ 0; simp⟩
  | p :: ps, os => by
    induction os with
    | nil =>
      obtain ⟨e, he, h⟩ := wy_le_cst ps []
      have h1 := wy_le_l (l := l) (q := q) (d := d) p ps (([] : List Int).take e)
      exact ⟨e, he, by rw [cst_nil]; omega⟩
    | cons o os ih =>
      rw [cst_cons]
      by_cases c1 : l + cst l q d ps (o :: os) ≤ q + cst l q d (p :: ps) os ∧ l + cst l q d ps (o :: os) ≤ d o p + cst l q d ps os
      · obtain ⟨e, he, h⟩ := wy_le_cst ps (o :: os)
        have h1 := wy_le_l (l := l) (q := q) (d := d) p ps ((o :: os).take e)
        exact ⟨e, he, by omega⟩
      · by_cases c2 : q + cst l q d (p :: ps) os ≤ d o p + cst l q d ps os
        · obtain ⟨e, he, h⟩ := ih
          have h1 := wy_put (l := l) (q := q) (d := d) (p :: ps) o (os.take e)
          refine ⟨e + 1, by simpa using he, ?_⟩
          rw [List.take_succ_cons]; omega
        · obtain ⟨e, he, h⟩ := wy_le_cst ps os
          refine ⟨e + 1, by simpa using he, ?_⟩
          rw [List.take_succ_cons]
          have h1 := wy_le_k (l := l) (q := q) (d := d) p ps (o :: os.take e) (k := 0) (by simp)
          rw [List.getD_cons_zero, List.drop_succ_cons, List.drop_zero] at h1
          have e0 : q * ((0 : Nat) : Int) = 0 := by simp
          omega

/-! tails, rows, tables, least ones -/
def tls {α : Type} : List α → List (List α)
  | [] => [[]]
  | a :: as => (a :: as) :: tls as
theorem tls_len {α : Type} : ∀ as : List α, (tls as).length = as.length + 1
  | [] => rfl
  | a :: as => by rw [tls, List.length_cons, tls_len as, List.length_cons]
theorem tls_get {α : Type} : ∀ (as : List α) (i : Nat), i ≤ as.length → (tls as)[i]? = some (as.drop i)
  | [], 0, _ => rfl
  | [], i + 1, h => by simp at h
  | a :: as, 0, _ => rfl
  | a :: as, i + 1, h => by
    rw [tls, List.getElem?_cons_succ, tls_get as i (by simpa using h), List.drop_succ_cons]
theorem mem_tls {α : Type} {as bs : List α} : bs ∈ tls as ↔ ∃ i, i ≤ as.length ∧ bs = as.drop i := by
  constructor
  · intro h
    obtain ⟨i, hi, e⟩ := List.getElem_of_mem h
    rw [tls_len] at hi
    refine ⟨i, by omega, ?_⟩
    have := tls_get as i (by omega)
    rw [List.getElem?_eq_getElem (by rw [tls_len]; omega), e] at this
    exact Option.some.inj this
  · rintro ⟨i, hi, rfl⟩
    exact List.mem_of_getElem? (tls_get as i hi)
def minL : List Int → Int
  | [] => 0
  | x :: xs => xs.foldl min x
theorem foldl_min_le : ∀ (xs : List Int) (a : Int), xs.foldl min a ≤ a ∧ ∀ y ∈ xs, xs.foldl min a ≤ y
  | [], a => ⟨Int.le_refl _, fun y hy => by simp at hy⟩
  | x :: xs, a => by
    have h := foldl_min_le xs (min a x)
    rw [List.foldl_cons]
    refine ⟨by omega, fun y hy => ?_⟩
    rcases List.mem_cons.mp hy with rfl | hy
    · omega
    · exact h.2 y hy
theorem foldl_min_mem : ∀ (xs : List Int) (a : Int), xs.foldl min a = a ∨ xs.foldl min a ∈ xs
  | [], a => .inl rfl
  | x :: xs, a => by
    rw [List.foldl_cons]
    rcases foldl_min_mem xs (min a x) with h | h
    · by_cases hle : a ≤ x
      · exact .inl (by omega)
      · exact .inr (by rw [h]; have : min a x = x := by omega
                       rw [this]; exact List.mem_cons_self)
    · exact .inr (List.mem_cons_of_mem _ h)
theorem minL_le {xs : List Int} {y : Int} (h : y ∈ xs) : minL xs ≤ y := by
  cases xs with
  | nil => simp at h
  | cons x xs =>
    have := foldl_min_le xs x
    rcases List.mem_cons.mp h with rfl | h
    · exact this.1
    · exact this.2 y h
theorem minL_mem {xs : List Int} (h : xs ≠ []) : minL xs ∈ xs := by
  cases xs with
  | nil => exact absurd rfl h
  | cons x xs =>
    rcases foldl_min_mem xs x with e | e
    · show xs.foldl min x ∈ _; rw [e]; exact List.mem_cons_self
    · exact List.mem_cons_of_mem _ e
theorem minL_eq {xs : List Int} {m : Int} (hm : m ∈ xs) (hl : ∀ y ∈ xs, m ≤ y) : minL xs = m := by
  have h1 := minL_le hm
  have h2 := hl _ (minL_mem (List.ne_nil_of_mem hm))
  omega
/-- the row of prices for the others' tails -/
def rowM (l q : Int) (d : Int → Int → Int) (ps os : List Int) : List Int := (tls os).map (cst l q d ps)
def tabM (l q : Int) (d : Int → Int → Int) (ps os : List Int) : List (List Int) := (tls ps).map fun r => rowM l q d r os
def npr (l q : Int) (d : Int → Int → Int) (ps os : List Int) : Int := minL (rowM l q d ps os)
theorem rowM_len (ps os : List Int) : (rowM l q d ps os).length = os.length + 1 := by rw [rowM, List.length_map, tls_len]
theorem rowM_ne (ps os : List Int) : rowM l q d ps os ≠ [] := fun h => by have := rowM_len (l := l) (q := q) (d := d) ps os; rw [h] at this; simp at this
theorem rowM_get (ps os : List Int) (j : Nat) (h : j ≤ os.length) : (rowM l q d ps os)[j]? = some (cst l q d ps (os.drop j)) := by
  rw [rowM, List.getElem?_map, tls_get os j h]; rfl
theorem mem_rowM {ps os : List Int} {x : Int} : x ∈ rowM l q d ps os ↔ ∃ j, j ≤ os.length ∧ x = cst l q d ps (os.drop j) := by
  rw [rowM, List.mem_map]
  constructor
  · rintro ⟨t, ht, rfl⟩
    obtain ⟨j, hj, rfl⟩ := mem_tls.mp ht
    exact ⟨j, hj, rfl⟩
  · rintro ⟨j, hj, rfl⟩
    exact ⟨_, mem_tls.mpr ⟨j, hj, rfl⟩, rfl⟩
theorem npr_le (ps os : List Int) {j : Nat} (h : j ≤ os.length) : npr l q d ps os ≤ cst l q d ps (os.drop j) := minL_le (mem_rowM.mpr ⟨j, h, rfl⟩)
theorem npr_is (ps os : List Int) : ∃ j, j ≤ os.length ∧ npr l q d ps os = cst l q d ps (os.drop j) := mem_rowM.mp (minL_mem (rowM_ne ps os))
theorem npr_mono' {l' q' : Int} {d' : Int → Int → Int} (hl : l ≤ l') (hq : q ≤ q') (ps os : List Int) (h : ∀ o ∈ os, ∀ p ∈ ps, d o p ≤ d' o p) : npr l q d ps os ≤ npr l' q' d' ps os := by
  obtain ⟨j, hj, e⟩ := npr_is (l := l') (q := q') (d := d') ps os
  rw [e]
  exact Int.le_trans (npr_le ps os hj) (cst_mono' hl hq ps _ fun o ho p hp => h o (List.mem_of_mem_drop ho) p hp)
theorem npr_nonneg (hl : 0 ≤ l) (hq : 0 ≤ q) (hd : ∀ o p, 0 ≤ d o p) (ps os : List Int) : 0 ≤ npr l q d ps os := by
  obtain ⟨j, hj, e⟩ := npr_is (l := l) (q := q) (d := d) ps os
  rw [e]; exact cst_nonneg hl hq hd _ _
theorem npr_le_all (hl : 0 ≤ l) (ps os : List Int) : npr l q d ps os ≤ l * ps.length := by
  have := npr_le (l := l) (q := q) (d := d) ps os (j := 0) (Nat.zero_le _)
  exact Int.le_trans this (cst_le_all hl _ _)
theorem npr_congr {d' : Int → Int → Int} (ps os : List Int) (h : ∀ o ∈ os, ∀ p ∈ ps, d o p = d' o p) : npr l q d ps os = npr l q d' ps os := by
  refine Int.le_antisymm (npr_mono' (Int.le_refl _) (Int.le_refl _) ps os fun o ho p hp => by rw [h o ho p hp]; exact Int.le_refl _) (npr_mono' (Int.le_refl _) (Int.le_refl _) ps os fun o ho p hp => by rw [h o ho p hp]; exact Int.le_refl _)
theorem npr_twice (ps os : List Int) : npr (2 * l) (2 * q) (fun o p => 2 * d o p) ps os = 2 * npr l q d ps os := by
  obtain ⟨j, hj, e⟩ := npr_is (l := l) (q := q) (d := d) ps os
  obtain ⟨i, hi, f⟩ := npr_is (l := 2 * l) (q := 2 * q) (d := fun o p => 2 * d o p) ps os
  have h1 := npr_le (l := 2 * l) (q := 2 * q) (d := fun o p => 2 * d o p) ps os hj
  have h2 := npr_le (l := l) (q := q) (d := d) ps os hi
  rw [cst_twice] at h1 f
  omega
theorem wy_ext (zs : List Int) : ∀ (ps ys : List Int), wy l 0 d ps (ys ++ zs) ≤ wy l 0 d ps ys
  | [], ys => by show (0 : Int) * _ ≤ 0 * _; simp
  | p :: ps, ys => by
    rcases wy_is (l := l) (q := 0) (d := d) p ps ys with h | ⟨k, hk, h⟩
    · have a1 := wy_le_l (l := l) (q := 0) (d := d) p ps (ys ++ zs)
      have a2 := wy_ext zs ps ys
      omega
    · have a1 := wy_le_k (l := l) (q := 0) (d := d) p ps (ys ++ zs) (k := k) (by rw [List.length_append]; omega)
      have e1 : (ys ++ zs).drop (k + 1) = ys.drop (k + 1) ++ zs := by rw [List.drop_append_of_le_length (by omega)]
      have e2 : (ys ++ zs).getD k 0 = ys.getD k 0 := by
        rw [List.getD_eq_getElem?_getD, List.getD_eq_getElem?_getD, List.getElem?_append_left hk]
      rw [e1, e2] at a1
      have a2 := wy_ext zs ps (ys.drop (k + 1))
      omega
/-- with put 0 the whole of the others is as good as any run -/
theorem npr_loose (hl : 0 ≤ l) (ps os : List Int) : npr l 0 d ps os = wy l 0 d ps os := by
  have h1 := cst_le_wy (l := l) (d := d) (Int.le_refl 0) ps os os.length
  rw [List.take_length] at h1
  have h2 := npr_le (l := l) (q := 0) (d := d) ps os (j := 0) (Nat.zero_le _)
  rw [List.drop_zero] at h2
  obtain ⟨j, hj, e⟩ := npr_is (l := l) (q := 0) (d := d) ps os
  have h3 := cst_le_drop (l := l) (d := d) (Int.le_refl 0) ps j os hj
  rw [Int.zero_mul] at h3
  obtain ⟨e2, he, h4⟩ := wy_le_cst (l := l) (q := 0) (d := d) ps os
  have h5 : wy l 0 d ps os ≤ wy l 0 d ps (os.take e2) := by
    have := wy_ext (l := l) (d := d) (os.drop e2) ps (os.take e2)
    rw [List.take_append_drop] at this
    exact this
  omega
end
/-! what a pitch costs that goes to an other one -/
def dv (c : Int) (v : Option Int) (o p : Int) : Int := match v with
  | some v => if o = p + v then 0 else c
  | none => c
theorem dv_nonneg {c : Int} (hc : 0 ≤ c) (v : Option Int) (o p : Int) : 0 ≤ dv c v o p := by
  unfold dv; split
  · split <;> omega
  · exact hc
theorem dv_le {c : Int} (hc : 0 ≤ c) (v : Option Int) (o p : Int) : dv c v o p ≤ c := by
  unfold dv; split
  · split <;> omega
  · exact Int.le_refl _
theorem dv_mono {c c' : Int} (h : c ≤ c') (hc : 0 ≤ c) (v : Option Int) (o p : Int) : dv c v o p ≤ dv c' v o p := by
  unfold dv; split
  · split <;> omega
  · exact h
theorem dv_zero (v : Option Int) (o p : Int) : dv 0 v o p = 0 := by
  unfold dv; split
  · split <;> rfl
  · rfl
theorem dv_twice (c : Int) (v : Option Int) (o p : Int) : dv (2 * c) v o p = 2 * dv c v o p := by
  unfold dv; split
  · split <;> omega
  · rfl
/-- v that is no difference -/
theorem dv_none {c : Int} {v : Int} {ps os : List Int} (h : ∀ o ∈ os, ∀ p ∈ ps, v ≠ o - p) : ∀ o ∈ os, ∀ p ∈ ps, dv c (some v) o p = dv c none o p := fun o ho p hp => by
  unfold dv
  dsimp only
  rw [if_neg (fun e => h o ho p hp (by omega))]
end Near

set_option Elab.async false
set_option linter.all false
set_option maxRecDepth 100000
set_option maxHeartbeats 4000000
/-! near lines: what the shared defs give -/
namespace Near
open PySem L2 DL
theorem lel {n : Nat} (h : Nat.ble n 1000 = true) : n ≤ 1000 := Nat.le_of_ble_eq_true h
abbrev IT (xs : List Int) : D := .tuple (xs.map PyData.int)
theorem min_if (i j : Int) : (if j < i then j else i) = min i j := by
  by_cases h : j < i
  · rw [if_pos h]; omega
  · rw [if_neg h]; omega
theorem atI_map {α β : Type} (f : α → β) (xs : List α) (i : Int) : atI (xs.map f) i = (atI xs i).map f := by
  unfold atI
  rw [List.length_map]
  cases ixN xs.length i with
  | none => rfl
  | some j => show (xs.map f)[j]? = (xs[j]?).map f; rw [List.getElem?_map]
theorem atI_n {α : Type} {xs : List α} {j : Nat} {x : α} {i : Int} (hi : i = (j : Int)) (h : xs[j]? = some x) : atI xs i = some x := by
  subst hi; exact atI_nat h
theorem atI_neg1 {α : Type} {xs : List α} {x : α} (h : xs[xs.length - 1]? = some x) : atI xs (-1) = some x := by
  have hl : xs ≠ [] := fun e => by subst e; simp at h
  obtain ⟨ys, y, rfl⟩ : ∃ ys y, xs = ys ++ [y] := ⟨xs.dropLast, xs.getLast hl, (List.dropLast_concat_getLast hl).symm⟩
  have : y = x := by simpa using h
  subst this
  exact atI_last _ _
def rtl {α : Type} (as : List α) : List (List α) := (tls as).reverse
theorem rtl_len {α : Type} (as : List α) : (rtl as).length = as.length + 1 := by rw [rtl, List.length_reverse, tls_len]
theorem rtl_get {α : Type} (as : List α) {k : Nat} (h : k ≤ as.length) : (rtl as)[k]? = some (as.drop (as.length - k)) := by
  rw [rtl, List.getElem?_reverse (by rw [tls_len]; omega), tls_len]
  have : as.length + 1 - 1 - k = as.length - k := by omega
  rw [this]
  exact tls_get as _ (by omega)
theorem take_snoc {α : Type} {xs : List α} {k : Nat} {x : α} (h : xs[k]? = some x) : xs.take (k + 1) = xs.take k ++ [x] := by
  rw [List.take_add_one, h]; rfl
theorem rev_get {xs : List Int} {t : Nat} {d : D} (h : (xs.map PyData.int).reverse[t]? = some d) : ∃ p, t < xs.length ∧ d = .int p ∧ xs.drop (xs.length - (t + 1)) = p :: xs.drop (xs.length - t) := by
  have ht : t < xs.length := by
    rcases Nat.lt_or_ge t xs.length with z | z
    · exact z
    · rw [List.getElem?_eq_none (by simpa using z)] at h; cases h
  have hlt : xs.length - (t + 1) < xs.length := by omega
  rw [List.getElem?_reverse (by simpa using ht), List.getElem?_map, List.length_map] at h
  have e : xs.length - 1 - t = xs.length - (t + 1) := by omega
  rw [e, List.getElem?_eq_getElem hlt] at h
  cases h
  refine ⟨_, ht, rfl, ?_⟩
  rw [List.drop_eq_getElem_cons hlt]
  have : xs.length - (t + 1) + 1 = xs.length - t := by omega
  rw [this]
theorem rep0 {n : Nat} (h : n ≤ 900) : gMul (.tuple [.int 0]) (.int ((n : Int) + 1)) = some (IT (List.replicate (n + 1) 0)) := by
  unfold gMul
  dsimp only
  by_cases h1 : (n : Int) + 1 = 1
  · rw [if_pos h1]
    have : n = 0 := by omega
    subst this; rfl
  · rw [if_neg h1, if_pos ⟨by simp, by omega, by omega, by simp⟩]
    have e : ((n : Int) + 1).toNat = n + 1 := by omega
    rw [e]
    have key : ∀ k : Nat, (List.replicate k [PyData.int 0]).flatten = (List.replicate k (0 : Int)).map PyData.int := by
      intro k
      induction k with
      | zero => rfl
      | succ k ih => rw [List.replicate_succ, List.flatten_cons, ih, List.replicate_succ]; rfl
    rw [key]
theorem row0 {l q : Int} {d : Int → Int → Int} : ∀ os : List Int, rowM l q d [] os = List.replicate (os.length + 1) 0
  | [] => rfl
  | o :: os => by
    have := row0 (l := l) (q := q) (d := d) os
    unfold rowM at this ⊢
    rw [tls, List.map_cons, this]; rfl
theorem okEq_int (i : Int) : okEq (.int i) = true := rfl
theorem gEq_int (i j : Int) : gEq (.int i) (.int j) = some (decide (i = j)) := by
  unfold gEq
  rw [if_pos ⟨rfl, rfl⟩]
  show some (i == j) = _
  congr 1
theorem gNe_int (i j : Int) : gNe (.int i) (.int j) = some (!decide (i = j)) := by
  unfold gNe
  rw [if_pos ⟨rfl, rfl⟩]
  show some (!(i == j)) = _
  congr 1
inductive IsV : D → Option Int → Prop
  | none : IsV .none none
  | int (x : Int) : IsV (.int x) (some x)
/-- dear = 0 if v is not None and o == p + v else changed -/
theorem dear_val {ρ : En} {vD : D} {vo : Option Int} {o p c : Int} {jv jc : Nat} {eo ep : FE} {Q : D → En → Prop} (hv : IsV vD vo) (h1 : ρ[jv]? = some (.sh vD)) (h2 : ρ[jc]? = some (.sh (.int c))) (ho : eo ρ = some (.int o, ρ)) (hp : ep ρ = some (.int p, ρ)) (q : Q (.int (dv c vo o p)) ρ) :
    WX (fIf (fAnd (fCmp gNotN (fVar jv) (fC .none)) (fCmp gEq eo (fOp gAdd ep (fVar jv)))) (fC (.int 0)) (fVar jc)) ρ Q := by
  refine wx_ife (wx_and (wx_cmp (wx_var h1 (wx_c ⟨_, rfl, ?_⟩))))
  cases hv with
  | none => exact ⟨fun z => (by cases z), fun _ => ⟨fun z => (by cases z), fun _ => wx_var h2 q⟩⟩
  | int x =>
    refine ⟨fun _ => wx_cmp (wx_eq ho (wx_op (wx_eq hp (wx_var h1 ⟨_, rfl, _, gEq_int _ _, fun z => ?_, fun z => ?_⟩)))), fun z => (by cases z)⟩
    · have z := of_decide_eq_true z
      have : dv c (some x) o p = 0 := if_pos z
      rw [this] at q
      exact wx_c q
    · have z := of_decide_eq_false z
      have : dv c (some x) o p = c := if_neg z
      rw [this] at q
      exact wx_var h2 q
theorem down_get {n i : Nat} {d : D} (h : (downI ((n : Int) - 1) n)[i]? = some d) : i < n ∧ d = .int (((n - (i + 1) : Nat)) : Int) := by
  unfold downI at h
  rw [List.getElem?_map] at h
  by_cases hi : i < n
  · rw [List.getElem?_range hi] at h
    cases h
    refine ⟨hi, ?_⟩
    have : ((n : Int) - 1) + (i : Int) * (-1) = ((n - (i + 1) : Nat) : Int) := by omega
    exact congrArg PyData.int this
  · rw [List.getElem?_eq_none (by simpa using hi)] at h; cases h
theorem ix_IT {xs : List Int} {i : Int} {j : Nat} {x : Int} (hi : i = (j : Int)) (h : xs[j]? = some x) : gIx (IT xs) (.int i) = some (.int x) := by
  show atI (xs.map PyData.int) i = _
  rw [atI_map, atI_n hi h]; rfl
theorem ix_row {l q : Int} {d : Int → Int → Int} {r os : List Int} {i : Int} {j : Nat} (hi : i = (j : Int)) (h : j ≤ os.length) : gIx (IT (rowM l q d r os)) (.int i) = some (.int (cst l q d r (os.drop j))) := ix_IT hi (rowM_get r os j h)
theorem ix_last {l q : Int} {d : Int → Int → Int} {r os : List Int} : gIx (IT (rowM l q d r os)) (.int (-1)) = some (.int (cst l q d r [])) := by
  show atI ((rowM l q d r os).map PyData.int) (-1) = _
  have := rowM_get (l := l) (q := q) (d := d) r os os.length (Nat.le_refl _)
  rw [List.drop_length] at this
  rw [atI_map, atI_neg1 (x := cst l q d r []) (by rw [rowM_len]; exact this)]; rfl
theorem rtl_last {β : Type} {as : List Int} {f : List Int → β} {t : Nat} (h : t ≤ as.length) : atI (((rtl as).take (t + 1)).map f) (-1) = some (f (as.drop (as.length - t))) := by
  rw [take_snoc (rtl_get as h), List.map_append, List.map_singleton]
  exact atI_last _ _
theorem rtl_more {β : Type} {as : List Int} {f : List Int → β} {t : Nat} (h : t + 1 ≤ as.length) : ((rtl as).take (t + 1 + 1)).map f = ((rtl as).take (t + 1)).map f ++ [f (as.drop (as.length - (t + 1)))] := by
  rw [take_snoc (rtl_get as h), List.map_append, List.map_singleton]
theorem rtl_one {β : Type} {as : List Int} {f : List Int → β} : ((rtl as).take 1).map f = [f []] := by
  have := rtl_get as (k := 0) (Nat.zero_le _)
  rw [take_snoc this, Nat.sub_zero, List.drop_length]; rfl
theorem rtl_all {β : Type} {as : List Int} {f : List Int → β} : (((rtl as).take (as.length + 1)).map f).reverse = (tls as).map f := by
  have : (rtl as).take (as.length + 1) = rtl as := List.take_of_length_le (by rw [rtl_len]; omega)
  rw [this, rtl, List.map_reverse, List.reverse_reverse]
theorem min3 {i j k : Int} : gMin [.int i, .int j, .int k] = some (.int (min (min i j) k)) := by
  show some (PyData.int (if k < (if j < i then j else i) then k else (if j < i then j else i))) = _
  rw [min_if, min_if]
theorem app1 {xs : List D} {d : D} (h : xs.length < 1000000) : gAppend xs [d] = some (.none, xs ++ [d]) := if_pos h
local macro_rules | `(tactic| trivial) => `(tactic| first
  | refine ws_seq ?_ | refine ws_set ?_ | refine ws_setO ?_ | refine ws_ret ?_ | refine ws_retO ?_ | refine ws_drop ?_ | refine ws_asg ?_ | refine ws_par ?_ | refine ws_if ?_ | refine wx_xS ?_ | refine wx_xO ?_
  | refine wx_var rfl ?_ | refine wx_c ?_ | refine wx_cons ?_ | refine wx_nil ?_ | refine wx_op ?_ | refine wx_call ?_ | refine wx_tup ?_ | refine wx_lst ?_ | refine wx_lstO ?_ | refine wx_negc ?_
  | refine wx_cmp ?_ | refine wx_bl ?_ | refine wx_te ?_ | refine wx_not ?_ | refine wx_it ?_ | refine wx_frz ?_ | refine wx_fn ?_ | refine wx_revO rfl ?_ | refine wx_ixO rfl ?_ | refine wx_mt rfl ?_
  | refine ⟨lel rfl, ?_⟩ | refine ⟨_, rfl, ?_⟩ | refine ⟨_, gEq_int _ _, ?_⟩ | refine ⟨_, gNe_int _ _, ?_⟩)
theorem table_val {l q c : Int} {vD : D} {vo : Option Int} (ps os : List Int) (hv : IsV vD vo) (hp : ps.length ≤ 900) (ho : os.length ≤ 900) :
    F_table_for [.sh (IT ps), .sh (IT os), .sh (.tuple [.int l, .int q, .int c]), .sh vD] = some (.sh (.tuple ((tabM l q (dv c vo) ps os).map IT)), .un) := by
  refine run_eq ?_
  repeat trivial
  have e0 : gMul (.tuple [.int 0]) (.int (((os.map PyData.int).length : Int) + 1)) = some (IT (List.replicate (os.length + 1) 0)) := by rw [List.length_map]; exact rep0 ho
  refine ⟨_, e0, ?_⟩
  repeat trivial
  refine ws_for ?_
  refine wx_it (wx_rev (wx_var rfl ⟨_, .inr ⟨rfl, _, .inr rfl, ?_⟩⟩))
  refine ⟨fun t ρ => ∃ a8 a9 a10 a11 a12, ρ = [.sh (IT ps), .sh (IT os), .sh (.tuple [.int l, .int q, .int c]), .sh vD, .sh (.int l), .sh (.int q), .sh (.int c), .ow (.lst (((rtl ps).take (t + 1)).map fun r => IT (rowM l q (dv c vo) r os))), a8, a9, a10, a11, a12], ?_, ?_, ?_⟩
  · refine ⟨.un, .un, .un, .un, .un, ?_⟩
    have e1 : (rtl ps).take 1 = [[]] := by
      have := rtl_get ps (k := 0) (Nat.zero_le _)
      rw [take_snoc this, Nat.sub_zero, List.drop_length]; rfl
    rw [show (0 : Nat) + 1 = 1 from rfl, e1, List.map_singleton, row0]; rfl
  · rintro t d ρ hd ⟨a8, a9, a10, a11, a12, rfl⟩
    obtain ⟨p, ht, rfl, hdp⟩ := rev_get hd
    refine ⟨_, rfl, ?_⟩
    repeat trivial
    refine ⟨_, _, _, rfl, rfl, rtl_last (by omega), ?_⟩
    repeat trivial
    refine ⟨_, _, _, rfl, rfl, rtl_last (by omega), ?_⟩
    repeat trivial
    refine ⟨_, ix_last, ?_⟩
    repeat trivial
    generalize hr : ps.drop (ps.length - t) = r at *
    refine ws_for (wx_r3 ?_)
    repeat trivial
    refine ⟨_, _, rfl, ⟨by simp; omega, by simp; omega, by decide, by decide⟩, ?_⟩
    refine ⟨fun k ρ => ∃ a11 a12, ρ = [.sh (IT ps), .sh (IT os), .sh (.tuple [.int l, .int q, .int c]), .sh vD, .sh (.int l), .sh (.int q), .sh (.int c), .ow (.lst (((rtl ps).take (t + 1)).map fun r => IT (rowM l q (dv c vo) r os))), .sh (.int p), .sh (IT (rowM l q (dv c vo) r os)), .ow (.lst (((rtl os).take (k + 1)).map fun s => .int (cst l q (dv c vo) (p :: r) s))), a11, a12], ?_, ?_, ?_⟩
    · refine ⟨a11, a12, ?_⟩
      rw [show (0 : Nat) + 1 = 1 from rfl, rtl_one]; rfl
    · rintro k d ρ hk ⟨a11, a12, rfl⟩
      have hn : (((os.map PyData.int).length : Int) - 1 - -1).toNat = os.length := by rw [List.length_map]; omega
      rw [hn, List.length_map] at hk
      obtain ⟨hk, rfl⟩ := down_get hk
      have hlt : os.length - (k + 1) < os.length := by omega
      have hdo : os.drop (os.length - (k + 1)) = os[os.length - (k + 1)] :: os.drop (os.length - k) := by
        rw [List.drop_eq_getElem_cons hlt]
        have : os.length - (k + 1) + 1 = os.length - k := by omega
        rw [this]
      refine ⟨_, rfl, ?_⟩
      repeat trivial
      refine dear_val (o := os[os.length - (k + 1)]) hv rfl rfl ?_ rfl ?_
      · show ob2 _ _ = _
        show wth (gIx (IT os) (.int ((os.length - (k + 1) : Nat) : Int))) _ = _
        rw [ix_IT rfl (List.getElem?_eq_getElem hlt)]; rfl
      repeat trivial
      refine ⟨_, ix_row rfl (by omega), ?_⟩
      repeat trivial
      refine ⟨_, _, _, rfl, rfl, rtl_last (by omega), ?_⟩
      repeat trivial
      refine ⟨_, ix_row (j := os.length - k) (by omega) (by omega), ?_⟩
      repeat trivial
      refine ⟨_, _, app1 ?_, ?_⟩
      · rw [List.length_map, List.length_take, rtl_len]; omega
      · refine ⟨.sh (.int ((os.length - (k + 1) : Nat) : Int)), .sh (.int (dv c vo os[os.length - (k + 1)] p)), ?_⟩
        rw [min_if, min_if, rtl_more (f := fun s => PyData.int (cst l q (dv c vo) (p :: r) s)) (by omega : k + 1 ≤ os.length), hdo, cst_cons]
        rfl
    · rintro ρ ⟨a11, a12, rfl⟩
      have hn : (((os.map PyData.int).length : Int) - 1 - -1).toNat = os.length := by rw [List.length_map]; omega
      rw [hn]
      unfold downI
      rw [List.length_map, List.length_range]
      repeat trivial
      refine ⟨_, _, app1 ?_, ?_⟩
      · rw [List.length_map, List.length_take, rtl_len]; omega
      · refine ⟨.sh (.int p), .sh (IT (rowM l q (dv c vo) r os)), .ow (.lst (((rtl os).take (os.length + 1)).map fun s => .int (cst l q (dv c vo) (p :: r) s))), a11, a12, ?_⟩
        rw [rtl_more (f := fun r => IT (rowM l q (dv c vo) r os)) (by omega : t + 1 ≤ ps.length), hdp, rtl_all]
        have e9 : IT (rowM l q (dv c vo) (p :: r) os) = .tuple ((tls os).map fun s => .int (cst l q (dv c vo) (p :: r) s)) := by unfold rowM; rw [IT, List.map_map]; rfl
        rw [e9]; rfl
  · rintro ρ ⟨a8, a9, a10, a11, a12, rfl⟩
    rw [List.length_reverse, List.length_map]
    dsimp only
    repeat trivial
    rw [rtl_all]
    refine ⟨?_, rfl⟩
    unfold tabM
    rw [List.map_map]; rfl
end Near

set_option Elab.async false
set_option linter.all false
set_option maxRecDepth 100000
set_option maxHeartbeats 4000000
/-! near lines: prices, ends, differences, the near one -/
namespace Near
open PySem L2 DL
theorem tls_head {α : Type} (as : List α) : ∃ t, tls as = as :: t := by
  cases as with
  | nil => exact ⟨[], rfl⟩
  | cons a as => exact ⟨tls as, rfl⟩
theorem tab_get {l q : Int} {d : Int → Int → Int} {ps os : List Int} {i : Nat} (h : i ≤ ps.length) : (tabM l q d ps os)[i]? = some (rowM l q d (ps.drop i) os) := by
  rw [tabM, List.getElem?_map, tls_get ps i h]; rfl
theorem ix_tab {l q : Int} {d : Int → Int → Int} {ps os : List Int} {i : Int} {j : Nat} (hi : i = (j : Int)) (h : j ≤ ps.length) : gIx (.tuple ((tabM l q d ps os).map IT)) (.int i) = some (IT (rowM l q d (ps.drop j) os)) := by
  show atI ((tabM l q d ps os).map IT) i = _
  rw [atI_map, atI_n hi (tab_get h)]; rfl
theorem min_IT {xs : List Int} (h : xs ≠ []) : gMin [IT xs] = some (.int (minL xs)) := by
  cases xs with
  | nil => exact absurd rfl h
  | cons x xs =>
    show (match intsOf ((x :: xs).map PyData.int) with | some (n :: ns) => some (PyData.int (ns.foldl min n)) | _ => none) = _
    rw [intsOf_map]; rfl
local macro_rules | `(tactic| trivial) => `(tactic| first
  | with_reducible refine ws_seq ?_ | with_reducible refine ws_set ?_ | with_reducible refine ws_setO ?_ | with_reducible refine ws_ret ?_ | with_reducible refine ws_retO ?_ | with_reducible refine ws_drop ?_ | with_reducible refine ws_asg ?_ | with_reducible refine ws_par ?_ | with_reducible refine ws_if ?_ | with_reducible refine ws_nil ?_
  | with_reducible refine wx_xS ?_ | with_reducible refine wx_xO ?_ | with_reducible refine wx_c ?_ | with_reducible refine wx_cons ?_ | with_reducible refine wx_nil ?_ | with_reducible refine wx_op ?_ | with_reducible refine wx_call ?_ | with_reducible refine wx_tup ?_ | with_reducible refine wx_lst ?_ | with_reducible refine wx_lstO ?_ | with_reducible refine wx_negc ?_
  | with_reducible refine wx_cmp ?_ | with_reducible refine wx_bl ?_ | with_reducible refine wx_te ?_ | with_reducible refine wx_not ?_ | with_reducible refine wx_frz ?_ | with_reducible refine wx_fn ?_
  | refine wx_var rfl ?_ | refine wx_revO rfl ?_ | refine wx_ixO rfl ?_ | refine wx_mt rfl ?_
  | refine ⟨lel rfl, ?_⟩ | refine ⟨_, rfl, ?_⟩ | refine ⟨_, gEq_int _ _, ?_⟩ | refine ⟨_, gNe_int _ _, ?_⟩)
theorem near_price_val {l q c : Int} {vD : D} {vo : Option Int} (ps os : List Int) (hv : IsV vD vo) (hp : ps.length ≤ 900) (ho : os.length ≤ 900) :
    F_near_price [.sh (IT ps), .sh (IT os), .sh (.tuple [.int l, .int q, .int c]), .sh vD] = some (.sh (.int (npr l q (dv c vo) ps os)), .un) := by
  refine run_eq ?_
  unfold b_near_price
  repeat trivial
  refine ⟨_, _, table_val ps os hv hp ho, ?_⟩
  repeat trivial
  refine ⟨_, ix_tab (j := 0) rfl (Nat.zero_le _), ?_⟩
  repeat trivial
  refine ⟨_, min_IT (rowM_ne _ _), ?_⟩
  rw [List.drop_zero]
  exact ⟨rfl, rfl⟩
theorem run_cons {os : List Int} {j e : Nat} (h1 : j < os.length) (h2 : j + 1 ≤ e) : (os.drop j).take (e - j) = os[j] :: (os.drop (j + 1)).take (e - (j + 1)) := by
  rw [List.drop_eq_getElem_cons h1]
  obtain ⟨k, rfl⟩ : ∃ k, e = j + 1 + k := ⟨e - (j + 1), by omega⟩
  have e1 : j + 1 + k - j = k + 1 := by omega
  have e2 : j + 1 + k - (j + 1) = k := by omega
  rw [e1, e2, List.take_succ_cons]
theorem end_of_val {l q c : Int} {vo : Option Int} (ps os : List Int) (b : Nat) (hb : b ≤ os.length) (hp : ps.length ≤ 400) (ho : os.length ≤ 400) :
    ∃ e : Nat, F_end_of [.sh (IT ps), .sh (.tuple ((tabM l q (dv c vo) ps os).map IT)), .sh (.tuple [.int l, .int q, .int c]), .sh (.int b)] = some (.sh (.int e), .un) ∧ b ≤ e ∧ e ≤ os.length ∧ wy l q (dv c vo) ps ((os.drop b).take (e - b)) ≤ cst l q (dv c vo) ps (os.drop b) := by
  have key : ∃ sv w, F_end_of [.sh (IT ps), .sh (.tuple ((tabM l q (dv c vo) ps os).map IT)), .sh (.tuple [.int l, .int q, .int c]), .sh (.int b)] = some (sv, w) ∧ ∃ e : Nat, sv = .sh (.int e) ∧ w = .un ∧ b ≤ e ∧ e ≤ os.length ∧ wy l q (dv c vo) ps ((os.drop b).take (e - b)) ≤ cst l q (dv c vo) ps (os.drop b) := by
    refine run_of ?_
    unfold b_end_of
    repeat trivial
    refine ws_while (n := 1000) (fun m ρ => ∃ (i j : Nat) (a9 : SV), ρ = [.sh (IT ps), .sh (.tuple ((tabM l q (dv c vo) ps os).map IT)), .sh (.tuple [.int l, .int q, .int c]), .sh (.int b), .sh (.int l), .sh (.int q), .sh (.int c), .sh (.int i), .sh (.int j), a9] ∧ i ≤ ps.length ∧ b ≤ j ∧ j ≤ os.length ∧ (ps.length - i) + (os.length - j) = m ∧
      ∀ e, j ≤ e → e ≤ os.length → wy l q (dv c vo) (ps.drop i) ((os.drop j).take (e - j)) ≤ cst l q (dv c vo) (ps.drop i) (os.drop j) → wy l q (dv c vo) ps ((os.drop b).take (e - b)) ≤ cst l q (dv c vo) ps (os.drop b)) (ps.length + (os.length - b)) (by omega) ⟨0, b, .un, rfl, Nat.zero_le _, Nat.le_refl _, hb, by omega, fun e _ _ h => h⟩ ?_
    rintro m ρ ⟨i, j, a9, rfl, hi, hj, hjm, rfl, hw⟩
    repeat trivial
    refine ⟨fun z => ?_, fun z => ?_⟩
    · have hlt : i < ps.length := by
        have := of_decide_eq_true z
        rw [List.length_map] at this
        omega
      have hdp : ps.drop i = ps[i] :: ps.drop (i + 1) := List.drop_eq_getElem_cons hlt
      repeat trivial
      refine ⟨_, ix_tab rfl (by omega), ?_⟩
      repeat trivial
      refine ⟨_, ix_row rfl hjm, ?_⟩
      repeat trivial
      refine ⟨_, ix_tab (j := i + 1) rfl (by omega), ?_⟩
      repeat trivial
      refine ⟨_, ix_row rfl hjm, ?_⟩
      repeat trivial
      refine ⟨fun z1 => ?_, fun z1 => ?_⟩
      · have z1 := of_decide_eq_true z1
        repeat trivial
        refine ⟨_, ?_, i + 1, j, .sh (.int (cst l q (dv c vo) (ps.drop i) (os.drop j))), rfl, by omega, hj, hjm, rfl, fun e he hem h => hw e he hem ?_⟩
        · omega
        · have h1 := wy_le_l (l := l) (q := q) (d := dv c vo) ps[i] (ps.drop (i + 1)) ((os.drop j).take (e - j))
          rw [← hdp] at h1
          omega
      · have z1 := of_decide_eq_false z1
        have hjl : j < os.length := by
          rcases Nat.lt_or_ge j os.length with y | y
          · exact y
          · have : os.drop j = [] := List.drop_eq_nil_iff.mpr y
            rw [this, hdp, cst_nil] at z1
            exact absurd rfl z1
        repeat trivial
        refine ⟨_, ix_tab rfl (by omega), ?_⟩
        repeat trivial
        refine ⟨_, ix_row (j := j + 1) rfl (by omega), ?_⟩
        repeat trivial
        refine ⟨fun z2 => ?_, fun z2 => ?_⟩
        · have z2 := of_decide_eq_true z2
          repeat trivial
          refine ⟨_, ?_, i, j + 1, .sh (.int (cst l q (dv c vo) (ps.drop i) (os.drop j))), rfl, by omega, by omega, by omega, rfl, fun e he hem h => hw e (by omega) hem ?_⟩
          · omega
          · rw [run_cons hjl he]
            have h1 := wy_put (l := l) (q := q) (d := dv c vo) (ps.drop i) os[j] ((os.drop (j + 1)).take (e - (j + 1)))
            omega
        · have z2 := of_decide_eq_false z2
          repeat trivial
          refine ⟨_, ?_, i + 1, j + 1, .sh (.int (cst l q (dv c vo) (ps.drop i) (os.drop j))), rfl, by omega, by omega, by omega, rfl, fun e he hem h => hw e (by omega) hem ?_⟩
          · omega
          · rw [run_cons hjl he]
            have h1 := wy_le_k (l := l) (q := q) (d := dv c vo) ps[i] (ps.drop (i + 1)) (os[j] :: (os.drop (j + 1)).take (e - (j + 1))) (k := 0) (by simp)
            rw [List.getD_cons_zero, List.drop_succ_cons, List.drop_zero] at h1
            have hdo : os.drop j = os[j] :: os.drop (j + 1) := List.drop_eq_getElem_cons hjl
            rw [hdo] at z1 z2 ⊢
            rw [hdp] at z1 z2 ⊢
            rw [cst_cons] at z1 z2 ⊢
            have e0 : q * ((0 : Nat) : Int) = 0 := by simp
            omega
    · have hlt : i = ps.length := by
        have := of_decide_eq_false z
        rw [List.length_map] at this
        omega
      subst hlt
      repeat trivial
      refine ⟨rfl, hj, hjm, hw j (Nat.le_refl _) hjm ?_⟩
      rw [List.drop_length, Nat.sub_self, List.take_zero]
      show q * (([] : List Int).length : Int) ≤ 0
      simp
  obtain ⟨sv, w, h, e, rfl, rfl, h1, h2, h3⟩ := key
  exact ⟨e, h, h1, h2, h3⟩
end Near

set_option Elab.async false
set_option linter.all false
set_option maxRecDepth 100000
set_option maxHeartbeats 4000000
/-! near lines: differences, the near one, ways -/
namespace Near
open PySem L2 DL
/-! keys put in, each once -/
def addU (ns : List Int) (y : Int) : List Int := if y ∈ ns then ns else ns ++ [y]
def uq (xs : List Int) : List Int := xs.foldl addU []
abbrev kT (x : Int) : Key × D := (.inl x, .bool true)
theorem kput_add (ns : List Int) (y : Int) : kput (ns.map kT) (.inl y) (.bool true) = (addU ns y).map kT := by
  unfold kput addU
  have e : ((ns.map kT).any fun kv => decide (kv.1 = .inl y)) = decide (y ∈ ns) := by
    rw [List.any_map]
    induction ns with
    | nil => rfl
    | cons n ns ih =>
      rw [List.any_cons, ih]
      show (decide (Sum.inl n = Sum.inl y) || _) = _
      by_cases h : n = y
      · subst h; simp
      · have h2 : ¬ y = n := fun z => h z.symm
        simp [h, h2]
  rw [e]
  by_cases h : y ∈ ns
  · rw [if_pos (by simpa using h), if_pos h, List.map_map]
    apply List.map_congr_left
    intro x hx
    show (if (kT x).1 = .inl y then ((kT x).1, PyData.bool true) else kT x) = kT x
    split <;> rfl
  · rw [if_neg (by simpa using h), if_neg h, List.map_append]; rfl
theorem kmerge_add : ∀ (xs ns : List Int), kmerge (ns.map kT) (xs.map kT) = (xs.foldl addU ns).map kT
  | [], ns => rfl
  | x :: xs, ns => by
    show kmerge (kput (ns.map kT) (.inl x) (.bool true)) (xs.map kT) = _
    rw [kput_add, kmerge_add xs]; rfl
theorem intKeys_kT : ∀ ns : List Int, intKeys (ns.map kT) = some ns
  | [] => rfl
  | n :: ns => by
    show (match intKeys (ns.map kT) with | some ns => some (n :: ns) | none => none) = _
    rw [intKeys_kT ns]
theorem mem_addU {ns : List Int} {y x : Int} : x ∈ addU ns y ↔ x ∈ ns ∨ x = y := by
  unfold addU
  by_cases h : y ∈ ns
  · rw [if_pos h]
    exact ⟨.inl, fun z => z.elim id fun e => e ▸ h⟩
  · rw [if_neg h]; simp
theorem mem_foldU : ∀ {xs ns : List Int} {x : Int}, x ∈ xs.foldl addU ns ↔ x ∈ ns ∨ x ∈ xs
  | [], ns, x => by simp
  | y :: xs, ns, x => by
    rw [List.foldl_cons, mem_foldU, mem_addU, List.mem_cons, or_assoc]
theorem mem_uq {xs : List Int} {x : Int} : x ∈ uq xs ↔ x ∈ xs := by
  unfold uq; rw [mem_foldU]; simp
theorem nodup_addU {ns : List Int} {y : Int} (h : ns.Nodup) : (addU ns y).Nodup := by
  unfold addU
  by_cases z : y ∈ ns
  · rw [if_pos z]; exact h
  · rw [if_neg z]
    refine List.nodup_append.mpr ⟨h, by simp, ?_⟩
    intro a ha b hb e
    rw [List.mem_singleton] at hb
    subst hb e; exact z ha
theorem nodup_foldU : ∀ {xs ns : List Int}, ns.Nodup → (xs.foldl addU ns).Nodup
  | [], _, h => h
  | y :: xs, ns, h => by rw [List.foldl_cons]; exact nodup_foldU (nodup_addU h)
theorem len_addU (ns : List Int) (y : Int) : (addU ns y).length ≤ ns.length + 1 := by
  unfold addU; split
  · omega
  · rw [List.length_append]; simp
theorem len_foldU : ∀ (xs ns : List Int), (xs.foldl addU ns).length ≤ ns.length + xs.length
  | [], ns => by simp
  | y :: xs, ns => by
    rw [List.foldl_cons]
    have h1 := len_foldU xs (addU ns y)
    have h2 := len_addU ns y
    rw [List.length_cons]; omega
def srt (xs : List Int) : List Int := isort (uq xs)
theorem mem_srt {xs : List Int} {x : Int} : x ∈ srt xs ↔ x ∈ xs := by
  unfold srt; rw [(isort_perm _).mem_iff, mem_uq]
theorem srt_ext {xs ys : List Int} (h : ∀ x, x ∈ xs ↔ x ∈ ys) : srt xs = srt ys := by
  unfold srt
  refine isort_uniq ?_ (isort_pw _)
  refine (isort_perm _).trans ?_
  exact (List.perm_ext_iff_of_nodup (nodup_foldU List.nodup_nil) (nodup_foldU List.nodup_nil)).mpr fun x => by
    show x ∈ uq xs ↔ x ∈ uq ys
    rw [mem_uq, mem_uq]; exact h x
theorem sort_kT {xs : List Int} (h : (uq xs).length < 64) : gSortD (.dK ((uq xs).map kT)) = some ((srt xs).map PyData.int) := by
  unfold gSortD
  dsimp only
  rw [intKeys_kT]
  dsimp only
  rw [if_pos h]; rfl
def pT (x : Int) : D := .tuple [.int x, .bool true]
theorem pairs_pT : ∀ xs : List Int, pairsOf (xs.map pT) = some (xs.map kT)
  | [] => rfl
  | x :: xs => by
    show (match keyOf (.int x), pairsOf (xs.map pT) with | some k, some kvs => some ((k, PyData.bool true) :: kvs) | _, _ => none) = _
    rw [pairs_pT xs]; rfl
theorem dict_pT (xs : List Int) : gDictP [.list (xs.map pT)] = some ((uq xs).map kT) := by
  unfold gDictP
  dsimp only
  rw [pairs_pT]
  dsimp only
  exact congrArg some (kmerge_add xs [])
def difs (ps os : List Int) : List Int := srt (os.flatMap fun o => ps.map fun p => o - p)
theorem mem_difs {ps os : List Int} {x : Int} : x ∈ difs ps os ↔ ∃ o ∈ os, ∃ p ∈ ps, x = o - p := by
  unfold difs
  rw [mem_srt, List.mem_flatMap]
  constructor
  · rintro ⟨o, ho, h⟩
    obtain ⟨p, hp, rfl⟩ := List.mem_map.mp h
    exact ⟨o, ho, p, hp, rfl⟩
  · rintro ⟨o, ho, p, hp, rfl⟩
    exact ⟨o, ho, List.mem_map.mpr ⟨p, hp, rfl⟩⟩
theorem len_fm (ps : List Int) : ∀ os : List Int, (os.flatMap fun o => ps.map fun p => o - p).length = os.length * ps.length
  | [] => by simp
  | o :: os => by
    rw [List.flatMap_cons, List.length_append, len_fm ps os, List.length_map, List.length_cons, Nat.add_mul]; omega
theorem len_uq (xs : List Int) : (uq xs).length ≤ xs.length := by
  have := len_foldU xs []
  simpa [uq] using this
local macro_rules | `(tactic| trivial) => `(tactic| first
  | with_reducible refine ws_seq ?_ | with_reducible refine ws_set ?_ | with_reducible refine ws_setO ?_ | with_reducible refine ws_ret ?_ | with_reducible refine ws_retO ?_ | with_reducible refine ws_drop ?_ | with_reducible refine ws_asg ?_ | with_reducible refine ws_par ?_ | with_reducible refine ws_if ?_ | with_reducible refine ws_nil ?_
  | with_reducible refine wx_xS ?_ | with_reducible refine wx_xO ?_ | with_reducible refine wx_c ?_ | with_reducible refine wx_cons ?_ | with_reducible refine wx_nil ?_ | with_reducible refine wx_op ?_ | with_reducible refine wx_call ?_ | with_reducible refine wx_tup ?_ | with_reducible refine wx_lst ?_ | with_reducible refine wx_lstO ?_ | with_reducible refine wx_negc ?_
  | with_reducible refine wx_cmp ?_ | with_reducible refine wx_bl ?_ | with_reducible refine wx_te ?_ | with_reducible refine wx_not ?_ | with_reducible refine wx_frz ?_ | with_reducible refine wx_fn ?_
  | refine wx_var rfl ?_ | refine wx_revO rfl ?_ | refine wx_ixO rfl ?_ | refine wx_mt rfl ?_
  | refine ⟨lel rfl, ?_⟩ | refine ⟨_, rfl, ?_⟩ | refine ⟨_, gEq_int _ _, ?_⟩ | refine ⟨_, gNe_int _ _, ?_⟩)

theorem take_succ_get {α : Type} {xs : List α} {i : Nat} {x : α} (h : xs[i]? = some x) : xs.take (i + 1) = xs.take i ++ [x] := take_snoc h
theorem map_get {xs : List Int} {i : Nat} {d : D} (h : (xs.map PyData.int)[i]? = some d) : ∃ x, xs[i]? = some x ∧ d = .int x := by
  rw [List.getElem?_map] at h
  cases e : xs[i]? with
  | none => rw [e] at h; cases h
  | some x => rw [e] at h; cases h; exact ⟨x, rfl, rfl⟩
theorem differences_val (ps os : List Int) (h : os.length * ps.length < 64) : F_differences [.sh (IT ps), .sh (IT os)] = some (.sh (.list ((difs ps os).map PyData.int)), .un) := by
  refine run_eq ?_
  unfold b_differences
  repeat trivial
  refine wx_sortO (wx_dictO ?_)
  repeat trivial
  refine wx_lc2 (wx_it (wx_var rfl ⟨_, .inr rfl, ?_⟩))
  refine ⟨fun i acc ρ => acc = (((os.take i).flatMap fun o => ps.map fun p => o - p).map pT) ∧ ρ = [.sh (IT ps), .sh (IT os), .un, .un], ⟨rfl, rfl⟩, ?_, ?_⟩
  · rintro i d acc ρ hd ⟨rfl, rfl⟩
    obtain ⟨o, ho, rfl⟩ := map_get hd
    have hi : i < os.length := by
      rcases Nat.lt_or_ge i os.length with z | z
      · exact z
      · rw [List.getElem?_eq_none z] at ho; cases ho
    refine ⟨_, rfl, wx_eq (d := true) rfl ⟨fun _ => ?_, fun z => by cases z⟩⟩
    refine wx_it (wx_var rfl ⟨_, .inr rfl, ?_, ?_⟩)
    · rw [List.length_map, List.length_map, len_fm, List.length_take]
      have : min i os.length * ps.length ≤ os.length * ps.length := Nat.mul_le_mul_right _ (by omega)
      have : ps.length ≤ os.length * ps.length := Nat.le_mul_of_pos_left _ (by omega)
      omega
    refine ⟨fun i1 acc1 ρ => acc1 = (((os.take i).flatMap fun o => ps.map fun p => o - p).map pT) ++ (((ps.take i1).map fun p => o - p).map pT) ∧ ρ = [.sh (IT ps), .sh (IT os), .sh (.int o), .un], ⟨by simp, rfl⟩, ?_, ?_⟩
    · rintro i1 d1 acc1 ρ hd1 ⟨rfl, rfl⟩
      obtain ⟨p, hp, rfl⟩ := map_get hd1
      refine ⟨_, rfl, wx_eq (d := true) rfl ⟨fun _ => ?_, fun z => by cases z⟩⟩
      repeat trivial
      refine ⟨?_, rfl⟩
      rw [take_snoc hp, List.map_append, List.map_append, List.append_assoc]
      rfl
    · rintro acc1 ρ ⟨rfl, rfl⟩
      refine ⟨?_, rfl⟩
      rw [List.length_map, List.take_length, take_snoc ho, List.flatMap_append, List.map_append]
      simp
  · rintro acc ρ ⟨rfl, rfl⟩
    rw [List.length_map, List.take_length]
    repeat trivial
    refine ⟨_, dict_pT _, _, sort_kT ?_, ?_⟩
    · have h1 := len_uq (os.flatMap fun o => ps.map fun p => o - p)
      rw [len_fm] at h1
      omega
    repeat trivial
theorem law_differences_val (ps os : List Int) (h : os.length * ps.length < 64) : F_law_differences [.sh (IT ps), .sh (IT os)] = some (.sh (.list ((difs ps os).map PyData.int)), .un) := by
  refine run_eq ?_
  unfold b_law_differences
  repeat trivial
  refine wx_d0 ?_
  repeat trivial
  refine ws_for (wx_it (wx_var rfl ⟨_, .inr rfl, ?_⟩))
  refine ⟨fun i ρ => ∃ a3 a4 ns, ρ = [.sh (IT ps), .sh (IT os), .ow (.dK (ns.map kT)), a3, a4] ∧ ns = ((ps.take i).flatMap fun p => os.map fun o => o - p).foldl addU [], ⟨.un, .un, [], rfl, rfl⟩, ?_, ?_⟩
  · rintro i d ρ hd ⟨a3, a4, ns, rfl, hns⟩
    obtain ⟨p, hp, rfl⟩ := map_get hd
    refine ⟨_, rfl, ?_⟩
    refine ws_for (wx_it (wx_var rfl ⟨_, .inr rfl, ?_⟩))
    refine ⟨fun k ρ => ∃ a4 ms, ρ = [.sh (IT ps), .sh (IT os), .ow (.dK (ms.map kT)), .sh (.int p), a4] ∧ ms = ((os.take k).map fun o => o - p).foldl addU ns, ⟨a4, ns, rfl, rfl⟩, ?_, ?_⟩
    · rintro k d ρ hd2 ⟨a4, ms, rfl, hms⟩
      obtain ⟨o, ho, rfl⟩ := map_get hd2
      refine ⟨_, rfl, ws_dput (wx_c ⟨_, rfl, ?_⟩)⟩
      repeat trivial
      refine ⟨_, _, rfl, rfl, ?_, ?_⟩
      · rw [List.length_map, hms, hns]
        have h1 := len_foldU ((os.take k).map fun o => o - p) (((ps.take i).flatMap fun p => os.map fun o => o - p).foldl addU [])
        have h2 := len_foldU ((ps.take i).flatMap fun p => os.map fun o => o - p) []
        have h3 : ((ps.take i).flatMap fun p => os.map fun o => o - p).length ≤ os.length * ps.length := by
          have : ((ps.take i).flatMap fun p => os.map fun o => o - p).length = (ps.take i).length * os.length := by
            generalize ps.take i = zs
            induction zs with
            | nil => simp
            | cons z zs ih => rw [List.flatMap_cons, List.length_append, ih, List.length_map, List.length_cons, Nat.add_mul]; omega
          rw [this, List.length_take, Nat.mul_comm]
          exact Nat.mul_le_mul_left _ (by omega)
        have h4 : ((os.take k).map fun o => o - p).length ≤ os.length := by rw [List.length_map, List.length_take]; omega
        have h5 : os.length ≤ os.length * ps.length := Nat.le_mul_of_pos_right _ (by
          rcases Nat.lt_or_ge 0 ps.length with z | z
          · exact z
          · rw [List.getElem?_eq_none (by omega)] at hp; cases hp)
        simp only [List.length_nil] at h2
        omega
      · refine ⟨.sh (.int o), addU ms (o - p), ?_, ?_⟩
        · rw [kput_add]; rfl
        · rw [take_snoc ho, List.map_append, List.foldl_append, ← hms]; rfl
    · rintro ρ ⟨a4, ms, rfl, hms⟩
      refine ⟨.sh (.int p), a4, ms, rfl, ?_⟩
      rw [List.length_map, List.take_length] at hms
      rw [take_snoc hp, List.flatMap_append, List.foldl_append, ← hns, hms]
      simp
  · rintro ρ ⟨a3, a4, ns, rfl, hns⟩
    rw [List.length_map, List.take_length] at hns
    dsimp only
    repeat trivial
    have e : ns = uq (ps.flatMap fun p => os.map fun o => o - p) := hns
    subst e
    refine wx_sortK rfl (sort_kT ?_) ?_
    · have h1 := len_uq (ps.flatMap fun p => os.map fun o => o - p)
      have : ∀ zs : List Int, (zs.flatMap fun p => os.map fun o => o - p).length = zs.length * os.length := by
        intro zs
        induction zs with
        | nil => simp
        | cons z zs ih => rw [List.flatMap_cons, List.length_append, ih, List.length_map, List.length_cons, Nat.add_mul]; omega
      rw [this, Nat.mul_comm] at h1
      omega
    repeat trivial
    refine ⟨?_, rfl⟩
    have : srt (ps.flatMap fun p => os.map fun o => o - p) = difs ps os := srt_ext fun x => by
      rw [List.mem_flatMap, List.mem_flatMap]
      constructor
      · rintro ⟨p, hp, z⟩
        obtain ⟨o, ho, rfl⟩ := List.mem_map.mp z
        exact ⟨o, ho, List.mem_map.mpr ⟨p, hp, rfl⟩⟩
      · rintro ⟨o, ho, z⟩
        obtain ⟨p, hp, rfl⟩ := List.mem_map.mp z
        exact ⟨p, hp, List.mem_map.mpr ⟨o, ho, rfl⟩⟩
    rw [this]
end Near

set_option Elab.async false
set_option linter.all false
set_option maxRecDepth 100000
set_option maxHeartbeats 4000000
/-! near lines: the near one, ways -/
namespace Near
open PySem L2 DL
local macro_rules | `(tactic| sizeOf_list_dec) => `(tactic| first
  | with_reducible refine ws_seq ?_ | with_reducible refine ws_set ?_ | with_reducible refine ws_setO ?_ | with_reducible refine ws_ret ?_ | with_reducible refine ws_retO ?_ | with_reducible refine ws_drop ?_ | with_reducible refine ws_asg ?_ | with_reducible refine ws_par ?_ | with_reducible refine ws_if ?_ | with_reducible refine ws_nil ?_
  | with_reducible refine wx_xS ?_ | with_reducible refine wx_xO ?_ | with_reducible refine wx_c ?_ | with_reducible refine wx_cons ?_ | with_reducible refine wx_nil ?_ | with_reducible refine wx_op ?_ | with_reducible refine wx_call ?_ | with_reducible refine wx_tup ?_ | with_reducible refine wx_lst ?_ | with_reducible refine wx_lstO ?_ | with_reducible refine wx_negc ?_
  | with_reducible refine wx_cmp ?_ | with_reducible refine wx_bl ?_ | with_reducible refine wx_te ?_ | with_reducible refine wx_not ?_ | with_reducible refine wx_frz ?_ | with_reducible refine wx_fn ?_
  | ((with_reducible apply wx_var); exact rfl) | ((with_reducible apply wx_revO); exact rfl) | ((with_reducible apply wx_ixO); exact rfl) | ((with_reducible apply wx_mt); exact rfl)
  | ((with_reducible apply And.intro); exact lel rfl) | ((with_reducible apply Exists.intro); refine And.intro rfl ?_) | ((with_reducible apply Exists.intro); refine And.intro (gEq_int _ _) ?_) | ((with_reducible apply Exists.intro); refine And.intro (gNe_int _ _) ?_)
  | ((with_reducible apply And.intro); exact rfl; exact rfl))
/-- what near tells -/
structure Best (l q c : Int) (ps os : List Int) (vs : List Int) (pr v : Int) (b e : Nat) : Prop where
  mem : v ∈ vs
  eq : pr = npr l q (dv c (some v)) ps os
  le : ∀ v' ∈ vs, pr ≤ npr l q (dv c (some v')) ps os
  be : b ≤ e
  em : e ≤ os.length
  way : wy l q (dv c (some v)) ps ((os.drop b).take (e - b)) = pr
theorem near_val {l q c : Int} (hq : 0 ≤ q) (ps os : List Int) (hp : ps.length ≤ 400) (ho : os.length ≤ 400) (h : os.length * ps.length < 64) :
    ∃ pr v b e, F_near [.sh (IT ps), .sh (IT os), .sh (.tuple [.int l, .int q, .int c])] = some (.sh (.tuple [.int pr, .int v, .int (b : Nat), .int (e : Nat)]), .un) ∧ Best l q c ps os (0 :: difs ps os) pr v b e := by
  have key : ∃ sv w, F_near [.sh (IT ps), .sh (IT os), .sh (.tuple [.int l, .int q, .int c])] = some (sv, w) ∧ ∃ pr v b e, sv = .sh (.tuple [.int pr, .int v, .int (b : Nat), .int (e : Nat)]) ∧ w = .un ∧ Best l q c ps os (0 :: difs ps os) pr v b e := by
    refine run_of ?_
    unfold b_near
    repeat sizeOf_list_dec
    refine ws_for (wx_it ?_)
    repeat sizeOf_list_dec
    refine ⟨_, _, differences_val ps os h, ?_⟩
    have e0 : gAdd (.list [.int 0]) (.list ((difs ps os).map PyData.int)) = some (.list ((0 :: difs ps os).map PyData.int)) := by
      show (if 1 + ((difs ps os).map PyData.int).length ≤ 1000000 then _ else _) = _
      rw [if_pos]
      · rfl
      · rw [List.length_map]
        have h1 := len_uq (os.flatMap fun o => ps.map fun p => o - p)
        rw [len_fm] at h1
        have h2 : (difs ps os).length = (uq (os.flatMap fun o => ps.map fun p => o - p)).length := (isort_perm _).length_eq
        omega
    refine ⟨_, e0, _, .inl rfl, ?_⟩
    generalize hvs : 0 :: difs ps os = vs
    have hne : vs ≠ [] := by rw [← hvs]; simp
    refine ⟨fun t ρ => ∃ a3 a4 a5 a6 a7, ρ = [.sh (IT ps), .sh (IT os), .sh (.tuple [.int l, .int q, .int c]), .sh a3, a4, a5, a6, a7] ∧ ((t = 0 ∧ a3 = .none) ∨ ∃ pr v b e, a3 = .tuple [.int pr, .int v, .int (b : Nat), .int (e : Nat)] ∧ Best l q c ps os (vs.take t) pr v b e), ⟨.none, .un, .un, .un, .un, rfl, .inl ⟨rfl, rfl⟩⟩, ?_, ?_⟩
    · rintro t d ρ hd ⟨a3, a4, a5, a6, a7, rfl, hbest⟩
      obtain ⟨v, hv, rfl⟩ := map_get hd
      refine ⟨_, rfl, ?_⟩
      repeat sizeOf_list_dec
      refine ⟨_, _, table_val ps os (.int v) (by omega) (by omega), ?_⟩
      repeat sizeOf_list_dec
      refine ⟨_, ix_tab (j := 0) rfl (Nat.zero_le _), ?_⟩
      repeat sizeOf_list_dec
      refine ⟨_, min_IT (rowM_ne _ _), ?_⟩
      rw [List.drop_zero]
      change WS _ [.sh (IT ps), .sh (IT os), .sh (.tuple [.int l, .int q, .int c]), .sh a3, .sh (.int v), .sh (.tuple ((tabM l q (dv c (some v)) ps os).map IT)), .sh (.int (npr l q (dv c (some v)) ps os)), a7] _
      have hsn : vs.take (t + 1) = vs.take t ++ [v] := take_snoc hv
      have take : (∀ v' ∈ vs.take t, npr l q (dv c (some v)) ps os ≤ npr l q (dv c (some v')) ps os) → WS ((bSeq (bSet 7 (fBmT gIndex (fOp gIx (fVar 5) (fC (.int 0))) (fCons (fVar 6) fNil)))
    (bSet 3 (fTup (fCons (fVar 6) (fCons (fVar 4) (fCons (fVar 7) (fCons (fFn F_end_of (fCons (fVar 0) (fCons (fVar 5) (fCons (fVar 2) (fCons (fVar 7) fNil))))) fNil)))))))) [.sh (IT ps), .sh (IT os), .sh (.tuple [.int l, .int q, .int c]), .sh a3, .sh (.int v), .sh (.tuple ((tabM l q (dv c (some v)) ps os).map IT)), .sh (.int (npr l q (dv c (some v)) ps os)), a7] ⟨fun ρ => ∃ a3 a4 a5 a6 a7, ρ = [.sh (IT ps), .sh (IT os), .sh (.tuple [.int l, .int q, .int c]), .sh a3, a4, a5, a6, a7] ∧ ((t + 1 = 0 ∧ a3 = .none) ∨ ∃ pr v b e, a3 = .tuple [.int pr, .int v, .int (b : Nat), .int (e : Nat)] ∧ Best l q c ps os (vs.take (t + 1)) pr v b e), fun _ _ => False, fun _ => False, fun _ => False⟩ := by
        intro hle
        repeat sizeOf_list_dec
        refine wx_bmT ?_
        repeat sizeOf_list_dec
        refine ⟨_, ix_tab (j := 0) rfl (Nat.zero_le _), _, rfl, ?_⟩
        repeat sizeOf_list_dec
        rw [List.drop_zero]
        have hmem : npr l q (dv c (some v)) ps os ∈ rowM l q (dv c (some v)) ps os := minL_mem (rowM_ne _ _)
        have hlt := List.idxOf_lt_length_of_mem hmem
        have e1 : gIndex (IT (rowM l q (dv c (some v)) ps os)) [.int (npr l q (dv c (some v)) ps os)] = some (.int ((rowM l q (dv c (some v)) ps os).idxOf (npr l q (dv c (some v)) ps os) : Nat)) := by
          unfold gIndex
          dsimp only
          rw [intsOf_map]
          dsimp only
          rw [if_pos hmem]
        refine ⟨_, e1, ?_⟩
        generalize hb : (rowM l q (dv c (some v)) ps os).idxOf (npr l q (dv c (some v)) ps os) = b at *
        rw [rowM_len] at hlt
        have hcb : cst l q (dv c (some v)) ps (os.drop b) = npr l q (dv c (some v)) ps os := by
          have h1 := rowM_get (l := l) (q := q) (d := dv c (some v)) ps os b (by omega)
          have h2 : (rowM l q (dv c (some v)) ps os)[b]? = some (npr l q (dv c (some v)) ps os) := by
            rw [← hb]
            have := List.getElem_idxOf (List.idxOf_lt_length_of_mem hmem)
            rw [List.getElem?_eq_getElem (List.idxOf_lt_length_of_mem hmem), this]
          rw [h1] at h2
          exact Option.some.inj h2
        repeat sizeOf_list_dec
        obtain ⟨e, he, h1, h2, h3⟩ := end_of_val (l := l) (q := q) (c := c) (vo := some v) ps os b (by omega) hp ho
        refine ⟨_, _, he, ?_⟩
        repeat sizeOf_list_dec
        refine ⟨_, _, _, _, _, rfl, .inr ⟨_, _, _, _, rfl, ⟨by rw [hsn]; simp, rfl, fun v' hv' => ?_, h1, h2, ?_⟩⟩⟩
        · rw [hsn] at hv'
          rcases List.mem_append.mp hv' with z | z
          · exact hle v' z
          · rw [List.mem_singleton] at z; subst z; exact Int.le_refl _
        · have h4 := cst_le_wy (l := l) (d := dv c (some v)) hq ps (os.drop b) (e - b)
          omega
      refine ws_if (wx_or ?_)
      refine wx_cmp (wx_var rfl (wx_c ?_))
      rcases hbest with ⟨rfl, rfl⟩ | ⟨pr, v0, b0, e0, rfl, B⟩
      · refine ⟨_, rfl, fun _ => ⟨fun _ => ?_, fun z => (by cases z)⟩, fun z => (by cases z)⟩
        exact ws_mono (take (fun v' hv' => by simp at hv')) (fun _ h => h) (fun _ _ h => h.elim) (fun _ h => h.elim) (fun _ h => h.elim)
      · refine ⟨_, rfl, fun z => (by cases z), fun _ => ?_⟩
        repeat sizeOf_list_dec
        refine ⟨fun z => ?_, fun z => ?_⟩
        · have z := of_decide_eq_true z
          refine ws_mono (take (fun v' hv' => ?_)) (fun _ h => h) (fun _ _ h => h.elim) (fun _ h => h.elim) (fun _ h => h.elim)
          have := B.le v' hv'
          omega
        · have z := of_decide_eq_false z
          refine ws_nil ⟨_, _, _, _, _, rfl, .inr ⟨pr, v0, b0, e0, rfl, ⟨by rw [hsn]; exact List.mem_append_left _ B.mem, B.eq, fun v' hv' => ?_, B.be, B.em, B.way⟩⟩⟩
          rw [hsn] at hv'
          rcases List.mem_append.mp hv' with y | y
          · exact B.le v' y
          · rw [List.mem_singleton] at y; subst y; omega
    · rintro ρ ⟨a3, a4, a5, a6, a7, rfl, hbest⟩
      rw [List.length_map, List.take_length] at hbest
      dsimp only
      rcases hbest with ⟨h0, _⟩ | ⟨pr, v, b, e, rfl, B⟩
      · exact absurd (List.eq_nil_of_length_eq_zero h0) hne
      repeat sizeOf_list_dec
      exact ⟨pr, v, b, e, rfl, rfl, B⟩
  obtain ⟨sv, w, h1, pr, v, b, e, rfl, rfl, B⟩ := key
  exact ⟨pr, v, b, e, h1, B⟩
/-- every v costs at least what near tells -/
theorem Best.all {l q c : Int} (hq : 0 ≤ q) (hc : 0 ≤ c) {ps os : List Int} {pr v : Int} {b e : Nat} (B : Best l q c ps os (0 :: difs ps os) pr v b e) (v' : Int) : pr ≤ npr l q (dv c (some v')) ps os := by
  by_cases h : v' ∈ difs ps os
  · exact B.le v' (List.mem_cons_of_mem _ h)
  · have e1 := npr_congr (l := l) (q := q) (d := dv c (some v')) (d' := dv c none) ps os (dv_none fun o ho p hp e => h (mem_difs.mpr ⟨o, ho, p, hp, e⟩))
    rw [e1]
    exact Int.le_trans (B.le 0 List.mem_cons_self) (npr_mono' (Int.le_refl _) (Int.le_refl _) ps os fun o _ p _ => dv_le hc _ _ _)
theorem up_get {lo : Int} {n i : Nat} {d : D} (h : (upI lo n)[i]? = some d) : i < n ∧ d = .int (lo + (i : Int)) := by
  unfold upI at h
  rw [List.getElem?_map] at h
  by_cases hi : i < n
  · rw [List.getElem?_range hi] at h
    cases h
    exact ⟨hi, rfl⟩
  · rw [List.getElem?_eq_none (by simpa using hi)] at h; cases h
theorem ways_val {l q c : Int} {vD : D} {vo : Option Int} (hv : IsV vD vo) (hqs : 0 ≤ q ∧ q < 2 ^ 64) (ps os : List Int) : ∀ (m i j e : Nat), ps.length - i < m → i ≤ ps.length → j ≤ e → e ≤ os.length → os.length ≤ 1000 →
    F_law_ways m [.sh (IT ps), .sh (IT os), .sh (.tuple [.int l, .int q, .int c]), .sh vD, .sh (.int i), .sh (.int j), .sh (.int e)] = some (.sh (.int (wy l q (dv c vo) (ps.drop i) ((os.drop j).take (e - j)))), .un)
  | 0, i, j, e, hm, _, _, _, _ => by omega
  | m + 1, i, j, e, hm, hi, hj, he, hn => by
    have ih := ways_val (l := l) (c := c) hv hqs ps os m
    refine run_eq ?_
    unfold b_law_ways
    repeat sizeOf_list_dec
    rw [List.length_map]
    refine ⟨fun z => ?_, fun z => ?_⟩
    · have z := of_decide_eq_true z
      have : i = ps.length := by omega
      subst this
      repeat sizeOf_list_dec
      refine ⟨_, if_pos (.inl ⟨by omega, by omega⟩), ?_⟩
      refine ⟨?_, rfl⟩
      rw [List.drop_length]
      show _ = SV.sh (.int (q * (((os.drop j).take (e - j)).length : Int)))
      have : (((os.drop j).take (e - j)).length : Int) = (e : Int) - j := by rw [List.length_take, List.length_drop]; omega
      rw [this]
    · have z := of_decide_eq_false z
      have hlt : i < ps.length := by omega
      have hdp : ps.drop i = ps[i] :: ps.drop (i + 1) := List.drop_eq_getElem_cons hlt
      repeat sizeOf_list_dec
      refine ⟨_, _, ih (i + 1) j e (by omega) (by omega) hj he hn, ?_⟩
      iterate 2 sizeOf_list_dec
      generalize hrun : (os.drop j).take (e - j) = run at *
      have hrl : run.length = e - j := by rw [← hrun, List.length_take, List.length_drop]; omega
      with_reducible refine ws_for ?_
      with_reducible refine wx_r2 ?_
      repeat sizeOf_list_dec
      refine ⟨_, _, rfl, ⟨by omega, by omega, by omega, by omega⟩, ?_⟩
      have hrn : ((e : Int) - (j : Int)).toNat = run.length := by omega
      rw [hrn]
      refine ⟨fun t ρ => ∃ a11 a12, ρ = [.sh (IT ps), .sh (IT os), .sh (.tuple [.int l, .int q, .int c]), .sh vD, .sh (.int i), .sh (.int j), .sh (.int e), .sh (.int l), .sh (.int q), .sh (.int c), .sh (.int ((List.range t).foldl (fun (f : Int) (k : Nat) => min f (q * (k : Int) + dv c vo (run.getD k 0) ps[i] + wy l q (dv c vo) (ps.drop (i + 1)) (run.drop (k + 1)))) (l + wy l q (dv c vo) (ps.drop (i + 1)) run))), a11, a12], ⟨.un, .un, rfl⟩, ?_, ?_⟩
      · rintro t d ρ ht ⟨a11, a12, rfl⟩
        obtain ⟨ht, rfl⟩ := up_get ht
        have hjt : j + t < os.length := by omega
        have hrt : run.getD t 0 = os[j + t] := by
          rw [← hrun, List.getD_eq_getElem?_getD, List.getElem?_take_of_lt (by omega), List.getElem?_drop, List.getElem?_eq_getElem hjt]; rfl
        refine ⟨_, rfl, ?_⟩
        repeat sizeOf_list_dec
        refine dear_val (o := os[j + t]) (p := ps[i]) hv rfl rfl ?_ ?_ ?_
        · show wth (gIx (IT os) (.int ((j : Int) + (t : Int)))) _ = _
          rw [ix_IT (j := j + t) (by omega) (List.getElem?_eq_getElem hjt)]; rfl
        · show wth (gIx (IT ps) (.int (i : Int))) _ = _
          rw [ix_IT rfl (List.getElem?_eq_getElem hlt)]; rfl
        repeat sizeOf_list_dec
        refine ⟨_, if_pos (.inl ⟨by omega, by omega⟩), ?_⟩
        repeat sizeOf_list_dec
        have e1 : ((j : Int) + (t : Int)) + 1 = ((j + t + 1 : Nat) : Int) := by omega
        have e2 : (os.drop (j + t + 1)).take (e - (j + t + 1)) = run.drop (t + 1) := by
          rw [← hrun, List.drop_take, List.drop_drop]
          have a1 : j + (t + 1) = j + t + 1 := by omega
          have a2 : e - j - (t + 1) = e - (j + t + 1) := by omega
          rw [a1, a2]
        have e3 := ih (i + 1) (j + t + 1) e (by omega) (by omega) (by omega) he hn
        rw [e2, ← e1] at e3
        refine ⟨_, _, e3, ?_⟩
        repeat sizeOf_list_dec
        refine ⟨.sh (.int ((j : Int) + (t : Int))), .sh (.int (dv c vo os[j + t] ps[i])), ?_⟩
        have e4 : (j : Int) + (t : Int) - (j : Int) = (t : Int) := by omega
        rw [min_if, List.range_succ, List.foldl_append, List.foldl_cons, List.foldl_nil, hrt, e4]
        rfl
      · rintro ρ ⟨a11, a12, rfl⟩
        have e5 : (upI (j : Int) run.length).length = run.length := by unfold upI; rw [List.length_map, List.length_range]
        rw [e5, hdp]
        dsimp only
        repeat sizeOf_list_dec
end Near

set_option Elab.async false
set_option linter.all false
set_option maxRecDepth 100000
set_option maxHeartbeats 4000000
/-! near lines: the well and what is drawn from it -/
namespace Near
open PySem L2 DL
local macro_rules | `(tactic| sizeOf_list_dec) => `(tactic| first
  | with_reducible refine ws_for ?_ | with_reducible refine wx_lc ?_ | with_reducible refine wx_r1 ?_ | with_reducible refine wx_r2 ?_ | with_reducible refine wx_r3 ?_ | with_reducible refine wx_it ?_ | with_reducible refine wx_noP ?_ | with_reducible refine wx_part ?_ | with_reducible refine wx_sl ?_ | with_reducible refine wx_rev ?_ | with_reducible refine wx_bmT ?_ | with_reducible refine wx_callO ?_ | with_reducible refine wx_opO ?_
  | with_reducible refine ws_seq ?_ | with_reducible refine ws_set ?_ | with_reducible refine ws_setO ?_ | with_reducible refine ws_ret ?_ | with_reducible refine ws_retO ?_ | with_reducible refine ws_drop ?_ | with_reducible refine ws_asg ?_ | with_reducible refine ws_par ?_ | with_reducible refine ws_if ?_ | with_reducible refine ws_nil ?_
  | with_reducible refine wx_xS ?_ | with_reducible refine wx_xO ?_ | with_reducible refine wx_c ?_ | with_reducible refine wx_cons ?_ | with_reducible refine wx_nil ?_ | with_reducible refine wx_op ?_ | with_reducible refine wx_call ?_ | with_reducible refine wx_tup ?_ | with_reducible refine wx_lst ?_ | with_reducible refine wx_lstO ?_ | with_reducible refine wx_negc ?_
  | with_reducible refine wx_cmp ?_ | with_reducible refine wx_bl ?_ | with_reducible refine wx_te ?_ | with_reducible refine wx_not ?_ | with_reducible refine wx_frz ?_ | with_reducible refine wx_fn ?_
  | ((with_reducible apply wx_var); exact rfl) | ((with_reducible apply wx_revO); exact rfl) | ((with_reducible apply wx_ixO); exact rfl) | ((with_reducible apply wx_mt); exact rfl)
  | ((with_reducible apply And.intro); exact lel rfl) | ((with_reducible apply Exists.intro); refine And.intro rfl ?_) | ((with_reducible apply Exists.intro); refine And.intro (gEq_int _ _) ?_) | ((with_reducible apply Exists.intro); refine And.intro (gNe_int _ _) ?_)
  | ((with_reducible apply Exists.intro); refine And.intro (.inl rfl) ?_) | ((with_reducible apply Exists.intro); refine And.intro (.inr rfl) ?_)
  | ((with_reducible apply And.intro); exact rfl; exact rfl))

def IsW (o : Ob) : Prop := ∃ cells s c, o = .well cells s c
theorem draw_ok {o : Ob} {many : Int} (h : IsW o) (h1 : 1 ≤ many) (h2 : many < 1073741824) : ∃ r o', Fdraw [.pa o, .sh (.int many)] = some (.sh (.int r), .pa o') ∧ IsW o' ∧ 0 ≤ r ∧ r < many := by
  obtain ⟨cells, s, c, rfl⟩ := h
  have := drawV_in cells s c h1
  exact ⟨_, _, if_pos ⟨h1, h2⟩, drawW_well cells s c many, this.1, this.2⟩
theorem pick_ok {o : Ob} {ds : List D} (h : IsW o) (h1 : 1 ≤ ds.length) (h2 : ds.length < 1073741824) : ∃ d o', F_law_pick [.pa o, .sh (.list ds)] = some (.sh d, .pa o') ∧ IsW o' ∧ d ∈ ds := by
  obtain ⟨r, o', e, w, r0, r1⟩ := draw_ok (many := ds.length) h (by omega) (by omega)
  have hr : r.toNat < ds.length := by omega
  refine ⟨ds[r.toNat], o', run_eq ?_, w, List.getElem_mem hr⟩
  unfold b_law_pick
  repeat sizeOf_list_dec
  refine wx_fnP rfl ?_
  repeat sizeOf_list_dec
  refine ⟨_, _, e, ?_⟩
  refine ⟨_, atI_n (j := r.toNat) (by omega) (List.getElem?_eq_getElem hr), ?_⟩
  repeat sizeOf_list_dec
theorem ints_of {ds : List D} (h : ∀ d ∈ ds, ∃ x : Int, d = .int x) : ∃ xs : List Int, ds = xs.map PyData.int := by
  induction ds with
  | nil => exact ⟨[], rfl⟩
  | cons d ds ih =>
    obtain ⟨x, rfl⟩ := h d List.mem_cons_self
    obtain ⟨xs, rfl⟩ := ih fun d hd => h d (List.mem_cons_of_mem _ hd)
    exact ⟨x :: xs, rfl⟩
theorem items_ok {o : Ob} (h : IsW o) {many : Nat} (hm : many ≤ 1000) : ∃ xs o', F_law_items [.pa o, .sh (.int many)] = some (.sh (IT xs), .pa o') ∧ IsW o' ∧ xs.length = many ∧ ∀ x ∈ xs, 0 ≤ x ∧ x ≤ 126 := by
  obtain ⟨low, o1, e1, w1, l0, l1⟩ := draw_ok (many := 100) h (by decide) (by decide)
  obtain ⟨wd, o2, e2, w2, hw⟩ := pick_ok (ds := [.int 1, .int 2, .int 3, .int 5, .int 28]) w1 (by decide) (by decide)
  obtain ⟨wide, rfl, hw1, hw2⟩ : ∃ x : Int, wd = .int x ∧ 1 ≤ x ∧ x ≤ 28 := by
    simp only [List.mem_cons, List.not_mem_nil, or_false] at hw
    rcases hw with rfl | rfl | rfl | rfl | rfl <;> exact ⟨_, rfl, by decide, by decide⟩
  have key : ∃ sv w, F_law_items [.pa o, .sh (.int many)] = some (sv, w) ∧ ∃ xs o', sv = .sh (IT xs) ∧ w = .pa o' ∧ IsW o' ∧ xs.length = many ∧ ∀ x ∈ xs, 0 ≤ x ∧ x ≤ 126 := by
    refine run_of ?_
    unfold b_law_items
    repeat sizeOf_list_dec
    refine wx_fnP rfl ?_
    repeat sizeOf_list_dec
    refine ⟨_, _, e1, ?_⟩
    repeat sizeOf_list_dec
    refine wx_fnP rfl ?_
    repeat sizeOf_list_dec
    refine ⟨_, _, e2, ?_⟩
    repeat sizeOf_list_dec
    refine ⟨⟨by omega, by omega⟩, ?_⟩
    have hl : (upI 0 ((many : Int)).toNat).length = many := by unfold upI; rw [List.length_map, List.length_range]; omega
    refine ⟨by rw [hl]; omega, fun i acc ρ => ∃ xs o', acc = xs.map PyData.int ∧ ρ = [.pa o', .sh (.int many), .sh (.int low), .sh (.int wide), .un] ∧ IsW o' ∧ xs.length = i ∧ ∀ x ∈ xs, 0 ≤ x ∧ x ≤ 126, ⟨[], o2, rfl, rfl, w2, rfl, fun x hx => by simp at hx⟩, ?_, ?_⟩
    · rintro i d acc ρ hd ⟨xs, o3, rfl, rfl, w3, hxl, hx⟩
      refine ⟨_, rfl, wx_eq (d := true) rfl ⟨fun _ => ?_, fun z => (by cases z)⟩⟩
      obtain ⟨r, o4, e4, w4, r0, r1⟩ := draw_ok (many := wide) w3 hw1 (by omega)
      repeat sizeOf_list_dec
      refine wx_fnP rfl ?_
      repeat sizeOf_list_dec
      refine ⟨_, _, e4, _, rfl, xs ++ [low + r], o4, ?_, rfl, w4, by simp [hxl], ?_⟩
      · rw [List.map_append]; rfl
      · intro x hx'
        rcases List.mem_append.mp hx' with z | z
        · exact hx x z
        · rw [List.mem_singleton] at z; subst z; omega
    · rintro acc ρ ⟨xs, o3, rfl, rfl, w3, hxl, hx⟩
      dsimp only
      repeat sizeOf_list_dec
      exact ⟨xs, o3, rfl, rfl, w3, by omega, hx⟩
  obtain ⟨sv, w, e, xs, o', rfl, rfl, h1, h2, h3⟩ := key
  exact ⟨xs, o', e, h1, h2, h3⟩
theorem prices_ok {o : Ob} (h : IsW o) : ∃ l q c o', F_law_prices [.pa o] = some (.sh (.tuple [.int l, .int q, .int c]), .pa o') ∧ IsW o' ∧ (0 ≤ l ∧ l ≤ 9) ∧ (0 ≤ q ∧ q ≤ 9) ∧ (0 ≤ c ∧ c ≤ 9) := by
  have key : ∃ sv w, F_law_prices [.pa o] = some (sv, w) ∧ ∃ xs o', sv = .sh (IT xs) ∧ w = .pa o' ∧ IsW o' ∧ xs.length = 3 ∧ ∀ x ∈ xs, 0 ≤ x ∧ x ≤ 9 := by
    refine run_of ?_
    unfold b_law_prices
    repeat sizeOf_list_dec
    refine ⟨⟨by decide, by decide⟩, by decide, fun i acc ρ => ∃ xs o', acc = xs.map PyData.int ∧ ρ = [.pa o', .un] ∧ IsW o' ∧ xs.length = i ∧ ∀ x ∈ xs, 0 ≤ x ∧ x ≤ 9, ⟨[], o, rfl, rfl, h, rfl, fun x hx => by simp at hx⟩, ?_, ?_⟩
    · rintro i d acc ρ hd ⟨xs, o3, rfl, rfl, w3, hxl, hx⟩
      refine ⟨_, rfl, wx_eq (d := true) rfl ⟨fun _ => ?_, fun z => (by cases z)⟩⟩
      obtain ⟨r, o4, e4, w4, hr⟩ := pick_ok (ds := [.int 0, .int 1, .int 1, .int 2, .int 3, .int 5, .int 9]) w3 (by decide) (by decide)
      obtain ⟨y, rfl, hy1, hy2⟩ : ∃ x : Int, r = .int x ∧ 0 ≤ x ∧ x ≤ 9 := by
        simp only [List.mem_cons, List.not_mem_nil, or_false] at hr
        rcases hr with rfl | rfl | rfl | rfl | rfl | rfl | rfl <;> exact ⟨_, rfl, by decide, by decide⟩
      refine wx_fnP rfl ?_
      repeat sizeOf_list_dec
      refine ⟨_, _, e4, xs ++ [y], o4, ?_, rfl, w4, by simp [hxl], ?_⟩
      · rw [List.map_append]; rfl
      · intro x hx'
        rcases List.mem_append.mp hx' with z | z
        · exact hx x z
        · rw [List.mem_singleton] at z; subst z; omega
    · rintro acc ρ ⟨xs, o3, rfl, rfl, w3, hxl, hx⟩
      dsimp only
      repeat sizeOf_list_dec
      exact ⟨xs, o3, rfl, rfl, w3, hxl, hx⟩
  obtain ⟨sv, w, e, xs, o', rfl, rfl, h1, h2, h3⟩ := key
  match xs, h2 with
  | [l, q, c], _ => exact ⟨l, q, c, o', e, h1, h3 l (by simp), h3 q (by simp), h3 c (by simp)⟩
end Near

set_option Elab.async false
set_option linter.all false
set_option maxRecDepth 100000
set_option maxHeartbeats 4000000
/-! near lines: what is asked, the well from a script -/
namespace Near
open PySem L2 DL
local macro_rules | `(tactic| sizeOf_list_dec) => `(tactic| first
  | with_reducible refine ws_for ?_ | with_reducible refine wx_lc ?_ | with_reducible refine wx_r1 ?_ | with_reducible refine wx_r2 ?_ | with_reducible refine wx_r3 ?_ | with_reducible refine wx_it ?_ | with_reducible refine wx_noP ?_ | with_reducible refine wx_part ?_ | with_reducible refine wx_sl ?_ | with_reducible refine wx_rev ?_ | with_reducible refine wx_bmT ?_ | with_reducible refine wx_callO ?_ | with_reducible refine wx_opO ?_
  | with_reducible refine ws_seq ?_ | with_reducible refine ws_set ?_ | with_reducible refine ws_setO ?_ | with_reducible refine ws_ret ?_ | with_reducible refine ws_retO ?_ | with_reducible refine ws_drop ?_ | with_reducible refine ws_asg ?_ | with_reducible refine ws_par ?_ | with_reducible refine ws_if ?_ | with_reducible refine ws_nil ?_
  | with_reducible refine wx_xS ?_ | with_reducible refine wx_xO ?_ | with_reducible refine wx_c ?_ | with_reducible refine wx_cons ?_ | with_reducible refine wx_nil ?_ | with_reducible refine wx_op ?_ | with_reducible refine wx_call ?_ | with_reducible refine wx_tup ?_ | with_reducible refine wx_lst ?_ | with_reducible refine wx_lstO ?_ | with_reducible refine wx_negc ?_
  | with_reducible refine wx_cmp ?_ | with_reducible refine wx_bl ?_ | with_reducible refine wx_te ?_ | with_reducible refine wx_not ?_ | with_reducible refine wx_frz ?_ | with_reducible refine wx_fn ?_
  | ((with_reducible apply wx_var); exact rfl) | ((with_reducible apply wx_revO); exact rfl) | ((with_reducible apply wx_ixO); exact rfl) | ((with_reducible apply wx_mt); exact rfl)
  | ((with_reducible apply And.intro); exact lel rfl) | ((with_reducible apply Exists.intro); refine And.intro rfl ?_) | ((with_reducible apply Exists.intro); refine And.intro (gEq_int _ _) ?_) | ((with_reducible apply Exists.intro); refine And.intro (gNe_int _ _) ?_)
 
  | ((with_reducible apply And.intro); exact rfl; exact rfl))

theorem items_okI {o : Ob} (h : IsW o) {many : Int} (h0 : 0 ≤ many) (hm : many ≤ 1000) : ∃ xs o', F_law_items [.pa o, .sh (.int many)] = some (.sh (IT xs), .pa o') ∧ IsW o' ∧ (xs.length : Int) = many ∧ ∀ x ∈ xs, 0 ≤ x ∧ x ≤ 126 := by
  obtain ⟨xs, o', e, w, hl, hx⟩ := items_ok h (many := many.toNat) (by omega)
  have : ((many.toNat : Nat) : Int) = many := by omega
  rw [this] at e
  exact ⟨xs, o', e, w, by omega, hx⟩
theorem cut_take {xs : List D} {c : Nat} : cutD xs none (some (c : Int)) = xs.take c := by
  unfold cutD
  have e1 : HT.sIx xs.length 0 none = 0 := rfl
  rw [e1, List.drop_zero]
  have e2 : HT.sIx xs.length xs.length (some (c : Int)) = min c xs.length := by
    unfold HT.sIx
    simp
    omega
  rw [e2, Nat.sub_zero]
  rcases Nat.le_total c xs.length with z | z
  · rw [Nat.min_eq_left z]
  · rw [Nat.min_eq_right z, List.take_length, List.take_of_length_le z]
structure Askd (rows columns : Nat) (ps os : List Int) (l q c : Int) : Prop where
  p1 : 1 ≤ ps.length
  p2 : ps.length ≤ rows
  o2 : os.length ≤ columns
  pv : ∀ x ∈ ps, 0 ≤ x ∧ x ≤ 126
  ov : ∀ x ∈ os, 0 ≤ x ∧ x ≤ 127
  hl : 0 ≤ l ∧ l ≤ 9
  hq : 0 ≤ q ∧ q ≤ 9
  hc : 0 ≤ c ∧ c ≤ 9
theorem asked_ok {o : Ob} (h : IsW o) {rows columns : Nat} (hr : 1 ≤ rows) (hr2 : rows ≤ 100) (hc2 : columns ≤ 100) :
    ∃ ps os l q c o', F_law_asked [.pa o, .sh (.int rows), .sh (.int columns)] = some (.sh (.tuple [IT ps, IT os, .tuple [.int l, .int q, .int c]]), .pa o') ∧ IsW o' ∧ Askd rows columns ps os l q c := by
  have key : ∃ sv w, F_law_asked [.pa o, .sh (.int rows), .sh (.int columns)] = some (sv, w) ∧ ∃ ps os l q c o', sv = .sh (.tuple [IT ps, IT os, .tuple [.int l, .int q, .int c]]) ∧ w = .pa o' ∧ IsW o' ∧ Askd rows columns ps os l q c := by
    obtain ⟨r1, o1, e1, w1, _, _⟩ := draw_ok (many := rows) h (by omega) (by omega)
    obtain ⟨ps, o2, e2, w2, hpl, hpv⟩ := items_okI (many := 1 + r1) w1 (by omega) (by omega)
    obtain ⟨r3, o3, e3, w3, _, _⟩ := draw_ok (many := (columns : Int) + 1) w2 (by omega) (by omega)
    obtain ⟨os, o4, e4, w4, hol, hov⟩ := items_okI (many := r3) w3 (by omega) (by omega)
    obtain ⟨way, o5, e5, w5, _, _⟩ := draw_ok (many := 3) w4 (by decide) (by decide)
    refine run_of ?_
    unfold b_law_asked
    repeat sizeOf_list_dec
    refine wx_fnP rfl ?_
    repeat sizeOf_list_dec
    refine wx_fnP rfl ?_
    repeat sizeOf_list_dec
    refine ⟨_, _, e1, ?_⟩
    repeat sizeOf_list_dec
    refine ⟨_, _, e2, ?_⟩
    repeat sizeOf_list_dec
    refine wx_fnP rfl ?_
    repeat sizeOf_list_dec
    refine wx_fnP rfl ?_
    repeat sizeOf_list_dec
    refine ⟨_, _, e3, ?_⟩
    repeat sizeOf_list_dec
    refine ⟨_, _, e4, ?_⟩
    repeat sizeOf_list_dec
    refine wx_fnP rfl ?_
    repeat sizeOf_list_dec
    refine ⟨_, _, e5, ?_⟩
    repeat sizeOf_list_dec
    have fin : ∀ (os : List Int) (o6 : Ob) (a6 a7 a8 a9 a10 : SV), IsW o6 → os.length ≤ columns → (∀ x ∈ os, 0 ≤ x ∧ x ≤ 127) → WX (fFnW F_law_prices 0 fNil) [.pa o6, .sh (.int rows), .sh (.int columns), .sh (IT ps), .sh (IT os), .sh (.int way), a6, a7, a8, a9, a10] (fun d ρ1 => WX fNil ρ1 fun ds ρ2 => (IT ps :: IT os :: d :: ds).length ≤ 1000 ∧ ∃ ps' os' l q c o', SV.sh (.tuple (IT ps :: IT os :: d :: ds)) = .sh (.tuple [IT ps', IT os', .tuple [.int l, .int q, .int c]]) ∧ paOf ρ2 = .pa o' ∧ IsW o' ∧ Askd rows columns ps' os' l q c) := by
      intro os o6 a6 a7 a8 a9 a10 w6 h1 h2
      obtain ⟨l, q, c, o7, e7, w7, hl, hq, hc⟩ := prices_ok w6
      refine wx_fnP rfl ?_
      repeat sizeOf_list_dec
      refine ⟨_, _, e7, ?_⟩
      repeat sizeOf_list_dec
      exact ⟨ps, os, l, q, c, o7, rfl, rfl, w7, ⟨by omega, by omega, h1, hpv, h2, hl, hq, hc⟩⟩
    refine ⟨fun _ => ?_, fun _ => ?_⟩
    · obtain ⟨v, o6, e6, w6, _, _⟩ := draw_ok (many := 25) w5 (by decide) (by decide)
      have hne : ps ≠ [] := fun e => by rw [e] at hpl; simp at hpl; omega
      have hlow := hpv _ (minL_mem hne)
      repeat sizeOf_list_dec
      refine wx_fnP rfl ?_
      repeat sizeOf_list_dec
      refine ⟨_, _, e6, ?_⟩
      repeat sizeOf_list_dec
      refine ⟨_, min_IT hne, ?_⟩
      repeat sizeOf_list_dec
      refine ⟨_, .inr rfl, by rw [List.length_map]; omega, ?_⟩
      refine ⟨fun i acc ρ => ∃ ms, acc = ms.map PyData.int ∧ ms.length = i ∧ (∀ x ∈ ms, 0 ≤ x ∧ x ≤ 127) ∧ ρ = [.pa o6, .sh (.int rows), .sh (.int columns), .sh (IT ps), .sh (IT os), .sh (.int way), .sh (.int (v - 12)), .sh (.int (minL ps)), .un, .un, .un], ⟨[], rfl, rfl, fun x hx => by simp at hx, rfl⟩, ?_, ?_⟩
      · rintro i d acc ρ hd ⟨ms, rfl, hml, hmv, rfl⟩
        obtain ⟨x, hx, rfl⟩ := map_get hd
        refine ⟨_, rfl, wx_eq (d := true) rfl ⟨fun _ => ?_, fun z => (by cases z)⟩⟩
        repeat sizeOf_list_dec
        refine ⟨ms ++ [if (if x + (v - 12) < 127 then x + (v - 12) else 127) > 0 then (if x + (v - 12) < 127 then x + (v - 12) else 127) else 0], ?_, by simp [hml], ?_, rfl⟩
        · rw [List.map_append]; rfl
        · intro y hy
          rcases List.mem_append.mp hy with z | z
          · exact hmv y z
          · rw [List.mem_singleton] at z; subst z
            constructor
            · split <;> omega
            · split <;> split <;> omega
      rintro acc ρ ⟨ms, rfl, hml, hmv, rfl⟩
      rw [List.length_map] at hml
      dsimp only
      obtain ⟨r7, o7, e7, w7, _, _⟩ := draw_ok (many := 3) w6 (by decide) (by decide)
      repeat sizeOf_list_dec
      refine wx_fnP rfl ?_
      repeat sizeOf_list_dec
      refine ⟨_, _, e7, ?_⟩
      repeat sizeOf_list_dec
      refine ⟨⟨by omega, by omega⟩, ?_⟩
      have hul : (upI 0 r7.toNat).length = r7.toNat := by unfold upI; rw [List.length_map, List.length_range]
      refine ⟨fun i ρ => ∃ ms o8 a9, ms.length = ps.length + i ∧ (∀ x ∈ ms, 0 ≤ x ∧ x ≤ 127) ∧ IsW o8 ∧ ρ = [.pa o8, .sh (.int rows), .sh (.int columns), .sh (IT ps), .sh (IT os), .sh (.int way), .sh (.int (v - 12)), .sh (.int (minL ps)), .ow (.lst (ms.map PyData.int)), a9, .un], ⟨ms, o7, .un, by omega, hmv, w7, rfl⟩, ?_, ?_⟩
      · rintro i d ρ hd ⟨ms, o8, a9, hml, hmv, w8, rfl⟩
        obtain ⟨hi, rfl⟩ := up_get hd
        obtain ⟨r9, o9, e9, w9, _, _⟩ := draw_ok (many := ((ms.map PyData.int).length : Int) + 1) w8 (by omega) (by rw [List.length_map]; omega)
        rw [List.length_map] at *
        refine ⟨_, rfl, ?_⟩
        repeat sizeOf_list_dec
        refine wx_fnP rfl ?_
        repeat sizeOf_list_dec
        refine wx_ownC rfl rfl ?_
        repeat sizeOf_list_dec
        rw [List.length_map]
        refine ⟨_, _, e9, ?_⟩
        repeat sizeOf_list_dec
        refine ⟨_, _, if_pos ⟨by rw [List.length_map]; omega, by omega, by omega⟩, ?_⟩
        refine ⟨ms.take r9.toNat ++ [minL ps] ++ ms.drop r9.toNat, o9, .sh (.int (0 + i)), ?_, ?_, w9, ?_⟩
        · rw [List.length_append, List.length_append, List.length_take, List.length_drop, List.length_singleton]; omega
        · intro x hx
          rcases List.mem_append.mp hx with z | z
          · rcases List.mem_append.mp z with z | z
            · exact hmv x (List.mem_of_mem_take z)
            · rw [List.mem_singleton] at z; subst z; omega
          · exact hmv x (List.mem_of_mem_drop z)
        · rw [List.map_append, List.map_append, List.map_take, List.map_drop]; rfl
      · rintro ρ ⟨ms, o8, a9, hml, hmv, w8, rfl⟩
        dsimp only
        repeat sizeOf_list_dec
        refine wx_slO rfl ?_
        repeat sizeOf_list_dec
        rw [cut_take, ← List.map_take]
        exact fin (ms.take columns) o8 _ _ _ _ _ w8 (by rw [List.length_take]; omega) fun x hx => hmv x (List.mem_of_mem_take hx)
    · repeat sizeOf_list_dec
      exact fin os o5 _ _ _ _ _ w5 (by omega) fun x hx => by have := hov x hx; omega
  obtain ⟨sv, w, e, ps, os, l, q, c, o', rfl, rfl, h1, h2⟩ := key
  exact ⟨ps, os, l, q, c, o', e, h1, h2⟩
theorem well_ok (ns : List Int) : ∃ o w, F_law_well [.scr ns] = some (.ow o, w) ∧ IsW o := by
  have key : ∃ sv w, F_law_well [.scr ns] = some (sv, w) ∧ ∃ o, sv = .ow o ∧ IsW o := by
    refine run_of ?_
    unfold b_law_well
    repeat sizeOf_list_dec
    refine wx_slS rfl ?_
    repeat sizeOf_list_dec
    have hcut : cutD (ns.map PyData.int) none (some 63) = (ns.take 63).map PyData.int := by
      rw [List.map_take]; exact cut_take (c := 63)
    rw [hcut]
    have hcs : (ns.take 63).length ≤ 63 := by rw [List.length_take]; omega
    generalize ns.take 63 = cs at *
    refine ⟨_, .inl rfl, by rw [List.length_map]; omega, ?_⟩
    refine ⟨fun i acc ρ => ∃ ms, acc = ms.map PyData.int ∧ ms.length = i ∧ ρ = [.scr ns, .un, .un, .un], ⟨[], rfl, rfl, rfl⟩, ?_, ?_⟩
    · rintro i d acc ρ hd ⟨ms, rfl, hml, rfl⟩
      obtain ⟨x, hx, rfl⟩ := map_get hd
      refine ⟨_, rfl, wx_eq (d := true) rfl ⟨fun _ => ?_, fun z => (by cases z)⟩⟩
      repeat sizeOf_list_dec
      refine ⟨ms ++ [2 * (if x < 0 then -x else x) + (if decide (x < 0) = true then 1 else 0)], ?_, by simp [hml], rfl⟩
      rw [List.map_append]; rfl
    rintro acc ρ ⟨ms, rfl, hml, rfl⟩
    rw [List.length_map] at hml
    dsimp only
    repeat sizeOf_list_dec
    refine wx_lenS rfl ?_
    repeat sizeOf_list_dec
    refine ⟨_, .inl rfl, fun i ρ => ∃ s a3, ρ = [.scr ns, .sh (.list (ms.map PyData.int)), .sh (.int s), a3], ⟨_, _, rfl⟩, ?_, ?_⟩
    · rintro i d ρ hd ⟨s, a3, rfl⟩
      obtain ⟨x, hx, rfl⟩ := map_get hd
      refine ⟨_, rfl, ?_⟩
      repeat sizeOf_list_dec
      refine ⟨_, if_pos (.inr ⟨by decide, by decide⟩), ?_⟩
      repeat sizeOf_list_dec
      exact ⟨_, _, rfl⟩
    rintro ρ ⟨s, a3, rfl⟩
    dsimp only
    with_reducible refine ws_retO ?_
    refine wx_well ?_
    repeat sizeOf_list_dec
    refine ⟨_, .inl rfl, by rw [List.length_map]; omega, ?_⟩
    refine ⟨fun i acc ρ => ∃ ms', acc = ms'.map PyData.int ∧ ρ = [.scr ns, .sh (.list (ms.map PyData.int)), .sh (.int s), .un], ⟨[], rfl, rfl⟩, ?_, ?_⟩
    · rintro i d acc ρ hd ⟨ms', rfl, rfl⟩
      obtain ⟨x, hx, rfl⟩ := map_get hd
      refine ⟨_, rfl, ?_⟩
      have e15 : gPow (.int 10) (.int 15) = some (.int (10 ^ (15 : Int).toNat)) := by
        unfold gPow
        dsimp only
        rw [if_pos ⟨by decide, by decide, by decide⟩]
      with_reducible refine wx_cmp ?_
      with_reducible apply wx_var
      · exact rfl
      with_reducible refine wx_op ?_
      refine wx_c (wx_c ⟨_, e15, _, rfl, fun _ => ?_, fun _ => ?_⟩)
      · with_reducible apply wx_var
        · exact rfl
        refine ⟨ms' ++ [x], ?_, rfl⟩
        rw [List.map_append]; rfl
      · exact ⟨ms', rfl, rfl⟩
    rintro acc ρ ⟨ms', rfl, rfl⟩
    dsimp only
    repeat sizeOf_list_dec
    exact ⟨_, ms', _, _, rfl, rfl, rfl, intsOf_map ms', _, rfl, _, _, _, rfl⟩
  obtain ⟨sv, w, e, o, rfl, h⟩ := key
  exact ⟨o, w, e, h⟩
end Near

set_option Elab.async false
set_option linter.all false
set_option maxRecDepth 100000
set_option maxHeartbeats 4000000
/-! printed by gen.py: defs that several laws share, as functions over data -/
namespace Near
open PySem L2 DL
def b_law_table : FS :=
    (bSeq (bAsg (gtT 3 (gtCons (gtN 4) (gtCons (gtN 5) (gtCons (gtN 6) gtNil)))) (fVar 2))
    (bSeq (bSet 7 (fLst (fCons (fOp gMul (fTup (fCons (fC (.int 0)) fNil)) (fOp gAdd (fCall gLen (fCons (fVar 1) fNil)) (fC (.int 1)))) fNil)))
    (bSeq (bFor (fIt (fRev (fVar 0))) (gtN 8) (bSeq (bPar 9 10 (xS (fOp gIx (fVar 7) (fC (.int 0)))) (xS (fLst fNil)))
    (bSeq (bFor (fR3 (fCons (fCall gLen (fCons (fVar 1) fNil)) (fCons (fNeg (fC (.int 1))) (fCons (fNeg (fC (.int 1))) fNil)))) (gtN 11) (bSeq (bSet 12 (fOp gAdd (fVar 4) (fOp gIx (fVar 9) (fVar 11))))
    (bSeq (bIf (fCmp gLt (fVar 11) (fCall gLen (fCons (fVar 1) fNil))) (bSeq (bSet 13 (fIf (fAnd (fCmp gNotN (fVar 3) (fC .none)) (fCmp gEq (fOp gIx (fVar 1) (fVar 11)) (fOp gAdd (fVar 8) (fVar 3)))) (fC (.int 0)) (fVar 6)))
    (bSet 12 (fCall gMin (fCons (fVar 12) (fCons (fOp gAdd (fVar 13) (fOp gIx (fVar 9) (fOp gAdd (fVar 11) (fC (.int 1))))) (fCons (fOp gAdd (fVar 5) (fOp gIx (fVar 10) (fC (.int 0)))) fNil)))))) bNil)
    (bSet 10 (fOp gAdd (fLst (fCons (fVar 12) fNil)) (fVar 10))))))
    (bSet 7 (fOp gAdd (fLst (fCons (fCall gTup (fCons (fVar 10) fNil)) fNil)) (fVar 7))))))
    (bRet (fCall gTup (fCons (fVar 7) fNil))))))
def F_law_table : SF := runD 14 b_law_table
end Near

set_option Elab.async false
set_option linter.all false
set_option maxRecDepth 100000
set_option maxHeartbeats 4000000
/-! near lines: the law's own table -/
namespace Near
open PySem L2 DL
theorem down_get' {n i : Nat} {d : D} (h : (downI (n : Int) (n + 1))[i]? = some d) : i ≤ n ∧ d = .int (((n - i : Nat)) : Int) := by
  unfold downI at h
  rw [List.getElem?_map] at h
  by_cases hi : i < n + 1
  · rw [List.getElem?_range hi] at h
    cases h
    refine ⟨by omega, ?_⟩
    have : (n : Int) + (i : Int) * (-1) = ((n - i : Nat) : Int) := by omega
    exact congrArg PyData.int this
  · rw [List.getElem?_eq_none (by simpa using hi)] at h; cases h
local macro_rules | `(tactic| sizeOf_list_dec) => `(tactic| first
  | with_reducible refine ws_for ?_ | with_reducible refine wx_lc ?_ | with_reducible refine wx_r1 ?_ | with_reducible refine wx_r2 ?_ | with_reducible refine wx_r3 ?_ | with_reducible refine wx_it ?_ | with_reducible refine wx_noP ?_ | with_reducible refine wx_part ?_ | with_reducible refine wx_sl ?_ | with_reducible refine wx_rev ?_ | with_reducible refine wx_bmT ?_ | with_reducible refine wx_callO ?_ | with_reducible refine wx_opO ?_ | with_reducible refine wx_or ?_ | with_reducible refine wx_and ?_ | with_reducible refine wx_ife ?_
  | with_reducible refine ws_seq ?_ | with_reducible refine ws_set ?_ | with_reducible refine ws_setO ?_ | with_reducible refine ws_ret ?_ | with_reducible refine ws_retO ?_ | with_reducible refine ws_drop ?_ | with_reducible refine ws_asg ?_ | with_reducible refine ws_par ?_ | with_reducible refine ws_if ?_ | with_reducible refine ws_nil ?_
  | with_reducible refine wx_xS ?_ | with_reducible refine wx_xO ?_ | with_reducible refine wx_c ?_ | with_reducible refine wx_cons ?_ | with_reducible refine wx_nil ?_ | with_reducible refine wx_op ?_ | with_reducible refine wx_call ?_ | with_reducible refine wx_tup ?_ | with_reducible refine wx_lst ?_ | with_reducible refine wx_lstO ?_ | with_reducible refine wx_negc ?_
  | with_reducible refine wx_cmp ?_ | with_reducible refine wx_bl ?_ | with_reducible refine wx_te ?_ | with_reducible refine wx_not ?_ | with_reducible refine wx_frz ?_ | with_reducible refine wx_fn ?_
  | ((with_reducible apply wx_var); exact rfl) | ((with_reducible apply wx_revO); exact rfl) | ((with_reducible apply wx_ixO); exact rfl) | ((with_reducible apply wx_mt); exact rfl)
  | ((with_reducible apply And.intro); exact lel rfl) | ((with_reducible apply Exists.intro); refine And.intro rfl ?_) | ((with_reducible apply Exists.intro); refine And.intro (gEq_int _ _) ?_) | ((with_reducible apply Exists.intro); refine And.intro (gNe_int _ _) ?_)
 
  | ((with_reducible apply And.intro); exact rfl; exact rfl))

theorem law_table_val {l q c : Int} {vD : D} {vo : Option Int} (ps os : List Int) (hv : IsV vD vo) (hp : ps.length ≤ 900) (ho : os.length ≤ 900) :
    F_law_table [.sh (IT ps), .sh (IT os), .sh (.tuple [.int l, .int q, .int c]), .sh vD] = some (.sh (.tuple ((tabM l q (dv c vo) ps os).map IT)), .un) := by
  refine run_eq ?_
  unfold b_law_table
  repeat sizeOf_list_dec
  have e0 : gMul (.tuple [.int 0]) (.int (((os.map PyData.int).length : Int) + 1)) = some (IT (List.replicate (os.length + 1) 0)) := by rw [List.length_map]; exact rep0 ho
  refine ⟨_, e0, ?_⟩
  repeat sizeOf_list_dec
  refine ⟨_, .inr ⟨rfl, _, .inr rfl, ?_⟩⟩
  refine ⟨fun t ρ => ∃ a8 a9 a10 a11 a12 a13, ρ = [.sh (IT ps), .sh (IT os), .sh (.tuple [.int l, .int q, .int c]), .sh vD, .sh (.int l), .sh (.int q), .sh (.int c), .sh (.list ((tls (ps.drop (ps.length - t))).map fun r => IT (rowM l q (dv c vo) r os))), a8, a9, a10, a11, a12, a13], ?_, ?_, ?_⟩
  · refine ⟨.un, .un, .un, .un, .un, .un, ?_⟩
    rw [Nat.sub_zero, List.drop_length]
    show _ = [_, _, _, _, _, _, _, SV.sh (.list [IT (rowM l q (dv c vo) [] os)]), _, _, _, _, _, _]
    rw [row0]; rfl
  · rintro t d ρ hd ⟨a8, a9, a10, a11, a12, a13, rfl⟩
    obtain ⟨p, ht, rfl, hdp⟩ := rev_get hd
    generalize hr : ps.drop (ps.length - t) = r at *
    obtain ⟨tl, htl⟩ := tls_head r
    refine ⟨_, rfl, ?_⟩
    iterate 6 sizeOf_list_dec
    have e1 : gIx (.list ((tls r).map fun r => IT (rowM l q (dv c vo) r os))) (.int 0) = some (IT (rowM l q (dv c vo) r os)) := by
      rw [htl]; exact atI_n (j := 0) rfl rfl
    refine ⟨_, e1, ?_⟩
    repeat sizeOf_list_dec
    refine ⟨_, _, rfl, ⟨by omega, by rw [List.length_map]; omega, by decide, by decide⟩, ?_⟩
    have hn : (((os.map PyData.int).length : Int) - -1).toNat = os.length + 1 := by rw [List.length_map]; omega
    rw [hn, List.length_map]
    refine ⟨fun k ρ => ∃ row a11 a12 a13, ρ = [.sh (IT ps), .sh (IT os), .sh (.tuple [.int l, .int q, .int c]), .sh vD, .sh (.int l), .sh (.int q), .sh (.int c), .sh (.list ((tls r).map fun r => IT (rowM l q (dv c vo) r os))), .sh (.int p), .sh (IT (rowM l q (dv c vo) r os)), .sh (.list row), a11, a12, a13] ∧
      ((k = 0 ∧ row = []) ∨ (0 < k ∧ row = (tls (os.drop (os.length - (k - 1)))).map fun s => .int (cst l q (dv c vo) (p :: r) s))), ⟨[], _, _, _, rfl, .inl ⟨rfl, rfl⟩⟩, ?_, ?_⟩
    · rintro k d ρ hk ⟨row, a11, a12, a13, rfl, hrow⟩
      obtain ⟨hk, rfl⟩ := down_get' hk
      refine ⟨_, rfl, ?_⟩
      repeat sizeOf_list_dec
      refine ⟨_, ix_row rfl (by omega), ?_⟩
      repeat sizeOf_list_dec
      rw [List.length_map]
      have fin : ∀ (best : Int) (a13 : SV), best = cst l q (dv c vo) (p :: r) (os.drop (os.length - k)) → WS (bSet 10 (fOp gAdd (fLst (fCons (fVar 12) fNil)) (fVar 10))) [.sh (IT ps), .sh (IT os), .sh (.tuple [.int l, .int q, .int c]), .sh vD, .sh (.int l), .sh (.int q), .sh (.int c), .sh (.list ((tls r).map fun r => IT (rowM l q (dv c vo) r os))), .sh (.int p), .sh (IT (rowM l q (dv c vo) r os)), .sh (.list row), .sh (.int ((os.length - k : Nat) : Int)), .sh (.int best), a13]
          ⟨fun ρ => ∃ row a11 a12 a13, ρ = [.sh (IT ps), .sh (IT os), .sh (.tuple [.int l, .int q, .int c]), .sh vD, .sh (.int l), .sh (.int q), .sh (.int c), .sh (.list ((tls r).map fun r => IT (rowM l q (dv c vo) r os))), .sh (.int p), .sh (IT (rowM l q (dv c vo) r os)), .sh (.list row), a11, a12, a13] ∧
      ((k + 1 = 0 ∧ row = []) ∨ (0 < k + 1 ∧ row = (tls (os.drop (os.length - (k + 1 - 1)))).map fun s => .int (cst l q (dv c vo) (p :: r) s))), fun _ _ => False, fun _ => False, fun _ => False⟩ := by
        intro best a13 hb
        repeat sizeOf_list_dec
        have el : row.length ≤ os.length + 1 := by
          rcases hrow with ⟨_, rfl⟩ | ⟨_, rfl⟩
          · simp
          · rw [List.length_map, tls_len, List.length_drop]; omega
        have eg : gAdd (.list [.int best]) (.list row) = some (.list (.int best :: row)) := if_pos (by show 1 + row.length ≤ _; omega)
        refine ⟨_, eg, _, .sh (.int ((os.length - k : Nat) : Int)), .sh (.int best), a13, rfl, .inr ⟨Nat.succ_pos k, ?_⟩⟩
        rw [Nat.add_sub_cancel, hb]
        rcases hrow with ⟨rfl, rfl⟩ | ⟨hk0, rfl⟩
        · rw [Nat.sub_zero, List.drop_length]; rfl
        · have hlt : os.length - k < os.length := by omega
          have e2 : os.length - (k - 1) = os.length - k + 1 := by omega
          rw [e2, List.drop_eq_getElem_cons hlt]; rfl
      refine ⟨fun z => ?_, fun z => ?_⟩
      · have z := of_decide_eq_true z
        have hlt : os.length - k < os.length := by omega
        have hk0 : 0 < k := by omega
        rcases hrow with ⟨rfl, _⟩ | ⟨_, hrow⟩
        · omega
        have e2 : os.length - (k - 1) = os.length - k + 1 := by omega
        rw [e2] at hrow
        obtain ⟨tl2, htl2⟩ := tls_head (os.drop (os.length - k + 1))
        iterate 2 sizeOf_list_dec
        refine dear_val (o := os[os.length - k]) (p := p) hv rfl rfl ?_ rfl ?_
        · show wth (gIx (IT os) (.int ((os.length - k : Nat) : Int))) _ = _
          rw [ix_IT rfl (List.getElem?_eq_getElem hlt)]; rfl
        repeat sizeOf_list_dec
        refine ⟨_, ix_row (j := os.length - k + 1) (by omega) (by omega), ?_⟩
        repeat sizeOf_list_dec
        have e3 : gIx (.list row) (.int 0) = some (.int (cst l q (dv c vo) (p :: r) (os.drop (os.length - k + 1)))) := by
          rw [hrow, htl2]; exact atI_n (j := 0) rfl rfl
        refine ⟨_, e3, ?_⟩
        iterate 3 sizeOf_list_dec
        dsimp only
        refine ws_mono (fin _ _ ?_) (fun _ h => h) (fun _ _ h => h.elim) (fun _ h => h.elim) (fun _ h => h.elim)
        rw [min_if, min_if, List.drop_eq_getElem_cons hlt, cst_cons]
        omega
      · have z := of_decide_eq_false z
        have : k = 0 := by omega
        subst this
        refine ws_nil ?_
        dsimp only
        refine ws_mono (fin _ a13 ?_) (fun _ h => h) (fun _ _ h => h.elim) (fun _ h => h.elim) (fun _ h => h.elim)
        rw [Nat.sub_zero, List.drop_length, cst_nil]
    · rintro ρ ⟨row, a11, a12, a13, rfl, hrow⟩
      have hk : (downI (os.length : Int) (os.length + 1)).length = os.length + 1 := by unfold downI; rw [List.length_map, List.length_range]
      rw [hk] at hrow
      rcases hrow with ⟨h0, _⟩ | ⟨_, rfl⟩
      · cases h0
      rw [Nat.add_sub_cancel, Nat.sub_self, List.drop_zero]
      dsimp only
      repeat sizeOf_list_dec
      have eg : gAdd (.list [.tuple ((tls os).map fun s => .int (cst l q (dv c vo) (p :: r) s))]) (.list ((tls r).map fun r => IT (rowM l q (dv c vo) r os))) = some (.list ((tls (p :: r)).map fun r => IT (rowM l q (dv c vo) r os))) := by
        have e9 : IT (rowM l q (dv c vo) (p :: r) os) = .tuple ((tls os).map fun s => .int (cst l q (dv c vo) (p :: r) s)) := by unfold rowM; rw [IT, List.map_map]; rfl
        rw [← e9]
        refine if_pos ?_
        rw [List.length_map, tls_len, ← hr, List.length_drop]
        show 1 + _ ≤ _
        omega
      refine ⟨_, eg, ?_⟩
      rw [hdp]
      exact ⟨_, _, _, _, _, _, rfl⟩
  · rintro ρ ⟨a8, a9, a10, a11, a12, a13, rfl⟩
    rw [List.length_reverse, List.length_map, Nat.sub_self, List.drop_zero]
    dsimp only
    repeat sizeOf_list_dec
    refine ⟨?_, rfl⟩
    unfold tabM
    rw [List.map_map]; rfl
end Near

set_option Elab.async false
set_option linter.all false
set_option maxRecDepth 100000
set_option maxHeartbeats 4000000
/-! printed by gen.py: the defs of the linked text as functions over data, and that they keep them -/
namespace K64
open PySem PySem.Spec PyProof.Rows L2 DL Near
def topS (i : Nat) : Stmt := PySem.Challenge.pw_heardagain_k64_prices_of_all_near_ways.main.body.getD i (.Pass ⟨0, 0, 0, 0⟩)
abbrev s_table_for : Stmt := topS 1
abbrev N_table_for : List Str := ["pitches", "others", "prices", "v", "left", "put", "changed", "rows", "pitch", "below", "row", "place", "dear"]
theorem sc_table_for : FnScope N_table_for ["pitches", "others", "prices", "v"] (defScope s_table_for) := ⟨rfl, rfl, rfl, by decide +kernel, rfl, by decide +kernel, by decide +kernel⟩
abbrev s_near_price : Stmt := topS 2
abbrev N_near_price : List Str := ["pitches", "others", "prices", "v"]
theorem sc_near_price : FnScope N_near_price ["pitches", "others", "prices", "v"] (defScope s_near_price) := ⟨rfl, rfl, rfl, by decide +kernel, rfl, by decide +kernel, by decide +kernel⟩
abbrev s_law_well : Stmt := topS 4
abbrev N_law_well : List Str := ["script", "cells", "stirred", "cell"]
theorem sc_law_well : FnScope N_law_well ["script"] (defScope s_law_well) := ⟨rfl, rfl, rfl, by decide +kernel, rfl, by decide +kernel, by decide +kernel⟩
abbrev s_law_draw : Stmt := topS 5
abbrev N_law_draw : List Str := ["well", "many", "cell", "found"]
theorem sc_law_draw : FnScope N_law_draw ["well", "many"] (defScope s_law_draw) := ⟨rfl, rfl, rfl, by decide +kernel, rfl, by decide +kernel, by decide +kernel⟩
abbrev s_law_pick : Stmt := topS 6
abbrev N_law_pick : List Str := ["well", "items"]
theorem sc_law_pick : FnScope N_law_pick ["well", "items"] (defScope s_law_pick) := ⟨rfl, rfl, rfl, by decide +kernel, rfl, by decide +kernel, by decide +kernel⟩
abbrev s_law_ways : Stmt := topS 7
abbrev N_law_ways : List Str := ["pitches", "others", "prices", "v", "i", "j", "end", "left", "put", "changed", "found", "k", "own"]
theorem sc_law_ways : FnScope N_law_ways ["pitches", "others", "prices", "v", "i", "j", "end"] (defScope s_law_ways) := ⟨rfl, rfl, rfl, by decide +kernel, rfl, by decide +kernel, by decide +kernel⟩
abbrev s_law_table : Stmt := topS 8
abbrev N_law_table : List Str := ["pitches", "others", "prices", "v", "left", "put", "changed", "rows", "pitch", "below", "row", "j", "best", "own"]
theorem sc_law_table : FnScope N_law_table ["pitches", "others", "prices", "v"] (defScope s_law_table) := ⟨rfl, rfl, rfl, by decide +kernel, rfl, by decide +kernel, by decide +kernel⟩
abbrev s_law_differences : Stmt := topS 9
abbrev N_law_differences : List Str := ["pitches", "others", "found", "pitch", "own"]
theorem sc_law_differences : FnScope N_law_differences ["pitches", "others"] (defScope s_law_differences) := ⟨rfl, rfl, rfl, by decide +kernel, rfl, by decide +kernel, by decide +kernel⟩
abbrev s_law_items : Stmt := topS 10
abbrev N_law_items : List Str := ["well", "many", "low", "wide", "turn"]
theorem sc_law_items : FnScope N_law_items ["well", "many"] (defScope s_law_items) := ⟨rfl, rfl, rfl, by decide +kernel, rfl, by decide +kernel, by decide +kernel⟩
abbrev s_law_prices : Stmt := topS 11
abbrev N_law_prices : List Str := ["well", "turn"]
theorem sc_law_prices : FnScope N_law_prices ["well"] (defScope s_law_prices) := ⟨rfl, rfl, rfl, by decide +kernel, rfl, by decide +kernel, by decide +kernel⟩
abbrev s_law_asked : Stmt := topS 12
abbrev N_law_asked : List Str := ["well", "rows", "columns", "pitches", "others", "way", "v", "low", "moved", "turn", "own"]
theorem sc_law_asked : FnScope N_law_asked ["well", "rows", "columns"] (defScope s_law_asked) := ⟨rfl, rfl, rfl, by decide +kernel, rfl, by decide +kernel, by decide +kernel⟩
abbrev s_law_least : Stmt := topS 13
abbrev N_law_least : List Str := ["pitches", "others", "prices", "v", "found", "begin", "end"]
theorem sc_law_least : FnScope N_law_least ["pitches", "others", "prices", "v"] (defScope s_law_least) := ⟨rfl, rfl, rfl, by decide +kernel, rfl, by decide +kernel, by decide +kernel⟩
abbrev s_law : Stmt := topS 14
abbrev N_law : List Str := ["script", "well", "rows", "columns", "pitches", "others", "prices", "before", "known", "v", "due", "far", "own"]
theorem sc_law : FnScope N_law ["script"] (defScope s_law) := ⟨rfl, rfl, rfl, by decide +kernel, rfl, by decide +kernel, by decide +kernel⟩
/-- where the defs stand, and what is still built-in -/
structure Txt (K : Fr8) (mg : Str → Option Value) where
  a_table_for : Addr
  fd_table_for : FuncData
  F_table_for : Fun K "table_for" "table_for" s_table_for a_table_for fd_table_for
  g_table_for : mg "table_for" = some (.ref a_table_for)
  b_table_for : Binds K fd_table_for ["pitches", "others", "prices", "v"] []
  a_near_price : Addr
  fd_near_price : FuncData
  F_near_price : Fun K "near_price" "near_price" s_near_price a_near_price fd_near_price
  g_near_price : mg "near_price" = some (.ref a_near_price)
  b_near_price : Binds K fd_near_price ["pitches", "others", "prices", "v"] []
  a_law_well : Addr
  fd_law_well : FuncData
  F_law_well : Fun K "_law_well" "_law_well" s_law_well a_law_well fd_law_well
  g_law_well : mg "_law_well" = some (.ref a_law_well)
  b_law_well : Binds K fd_law_well ["script"] []
  a_law_draw : Addr
  fd_law_draw : FuncData
  F_law_draw : Fun K "_law_draw" "_law_draw" s_law_draw a_law_draw fd_law_draw
  g_law_draw : mg "_law_draw" = some (.ref a_law_draw)
  b_law_draw : Binds K fd_law_draw ["well", "many"] []
  a_law_pick : Addr
  fd_law_pick : FuncData
  F_law_pick : Fun K "_law_pick" "_law_pick" s_law_pick a_law_pick fd_law_pick
  g_law_pick : mg "_law_pick" = some (.ref a_law_pick)
  b_law_pick : Binds K fd_law_pick ["well", "items"] []
  a_law_ways : Addr
  fd_law_ways : FuncData
  F_law_ways : Fun K "_law_ways" "_law_ways" s_law_ways a_law_ways fd_law_ways
  g_law_ways : mg "_law_ways" = some (.ref a_law_ways)
  b_law_ways : Binds K fd_law_ways ["pitches", "others", "prices", "v", "i", "j", "end"] []
  a_law_table : Addr
  fd_law_table : FuncData
  F_law_table : Fun K "_law_table" "_law_table" s_law_table a_law_table fd_law_table
  g_law_table : mg "_law_table" = some (.ref a_law_table)
  b_law_table : Binds K fd_law_table ["pitches", "others", "prices", "v"] []
  a_law_differences : Addr
  fd_law_differences : FuncData
  F_law_differences : Fun K "_law_differences" "_law_differences" s_law_differences a_law_differences fd_law_differences
  g_law_differences : mg "_law_differences" = some (.ref a_law_differences)
  b_law_differences : Binds K fd_law_differences ["pitches", "others"] []
  a_law_items : Addr
  fd_law_items : FuncData
  F_law_items : Fun K "_law_items" "_law_items" s_law_items a_law_items fd_law_items
  g_law_items : mg "_law_items" = some (.ref a_law_items)
  b_law_items : Binds K fd_law_items ["well", "many"] []
  a_law_prices : Addr
  fd_law_prices : FuncData
  F_law_prices : Fun K "_law_prices" "_law_prices" s_law_prices a_law_prices fd_law_prices
  g_law_prices : mg "_law_prices" = some (.ref a_law_prices)
  b_law_prices : Binds K fd_law_prices ["well"] []
  a_law_asked : Addr
  fd_law_asked : FuncData
  F_law_asked : Fun K "_law_asked" "_law_asked" s_law_asked a_law_asked fd_law_asked
  g_law_asked : mg "_law_asked" = some (.ref a_law_asked)
  b_law_asked : Binds K fd_law_asked ["well", "rows", "columns"] []
  a_law_least : Addr
  fd_law_least : FuncData
  F_law_least : Fun K "_law_least" "_law_least" s_law_least a_law_least fd_law_least
  g_law_least : mg "_law_least" = some (.ref a_law_least)
  b_law_least : Binds K fd_law_least ["pitches", "others", "prices", "v"] []
  a_law : Addr
  fd_law : FuncData
  F_law : Fun K "law" "law" s_law a_law fd_law
  g_law : mg "law" = some (.ref a_law)
  b_law : Binds K fd_law ["script"] []
  k0_near_price : KBinds K fd_near_price ["pitches", "others", "prices", "v"] ["v", "prices", "others", "pitches"] (pickU [3, 2, 1, 0]) (pickV [3, 2, 1, 0])
  m_abs : mg "abs" = none
  m_int : mg "int" = none
  m_len : mg "len" = none
  m_max : mg "max" = none
  m_min : mg "min" = none
  m_range : mg "range" = none
  m_repr : mg "repr" = none
  m_sorted : mg "sorted" = none
  m_tuple : mg "tuple" = none
variable {P : Program} {w : World} {K : Fr8} {mg : Str → Option Value} {base : Heap}
theorem ok_table_for (T : Txt K mg) : FnD P w K mg base 1 T.a_table_for T.fd_table_for ["pitches", "others", "prices", "v"] F_table_for := by
  refine fnd_of T.F_table_for sc_table_for (fun cdv A outer s H E hg0 hr => ?_)
  have hgu : (A.deeper (envOfC "table_for" (defScope s_table_for) s.heap.objs.size T.a_table_for cdv)).guards = some [] := hg0
  have hu := hr.units
  exact (dss_cons (ds_asg (ps_asg (de_var (pv 2)) (dg_t (by rfl) (dgs_cons (dg_n (pg_name (i := 4) sc_table_for.nd rfl (Or.inl rfl))) (dgs_cons (dg_n (pg_name (i := 5) sc_table_for.nd rfl (Or.inl rfl))) (dgs_cons (dg_n (pg_name (i := 6) sc_table_for.nd rfl (Or.inl rfl))) dgs_nil))))))
    (dss_cons (ds_setO (ps_set (i := 7) sc_table_for.nd rfl (.inl rfl) (do_lst (da_cons (de_op dop_mul (de_tup (da_cons de_int da_nil)) (de_op dop_add (de_callB dcl_len (by rfl) T.m_len bt_len (da_cons (de_var (pv 1)) da_nil)) de_int)) da_nil))))
    (dss_cons (ds_for (ps_for PassesOwn.never (by rfl) (di_it (de_rev (de_var (pv 0)))) (dg_n (pg_name (i := 8) sc_table_for.nd rfl (Or.inl rfl))) (dss_cons (ds_par (fun _ _ _ h => xS_np h) (fun _ _ _ h => xO_np h) (ps_par (by rfl) sc_table_for.nd rfl rfl (by decide) rfl rfl (pa_cons (dx_s (de_ixO (pv 7) (de_neg de_int) (fun _ _ => rfl))) (pa_cons (dx_o (do_lst (da_cons (de_op dop_add (de_var (pv 4)) (de_ix dix (de_ixO (pv 7) (de_neg de_int) (fun _ _ => rfl)) (de_neg de_int) (fun _ _ => rfl))) da_nil))) pa_nil)) (by rfl)))
    (dss_cons (ds_for (ps_for PassesOwn.never (by rfl) (di_r3 (by rfl) T.m_range (da_cons (de_op dop_sub (de_callB dcl_len (by rfl) T.m_len bt_len (da_cons (de_var (pv 1)) da_nil)) de_int) (da_cons (de_neg de_int) (da_cons (de_neg de_int) da_nil)))) (dg_n (pg_name (i := 11) sc_table_for.nd rfl (Or.inl rfl))) (dss_cons (ds_set (ps_set (i := 12) sc_table_for.nd rfl (.inl rfl) (de_if (PW.pt (dw_and (dt_cmp dcm_notN (de_var (pv 3)) de_non (nomark _)) (dw_one_and (dt_cmp (dcm_eq hu) (de_ix dix (de_var (pv 1)) (de_var (pv 11)) (fun _ _ => rfl)) (de_op dop_add (de_var (pv 8)) (de_var (pv 3))) (nomark _))))) de_int (de_var (pv 6)))))
    (dss_one (ds_drop (ps_expr (de_mt PySem.F.plainAttrs_list PySem.F.slot_list_append PySem.F.type_list_append dmt_append (pv 10) (da_cons (de_callB (dcl_min (by rfl) hu) (by rfl) T.m_min bt_min (da_cons (de_op dop_add (de_var (pv 4)) (de_ix dix (de_var (pv 9)) (de_var (pv 11)) (fun _ _ => rfl))) (da_cons (de_op dop_add (de_var (pv 5)) (de_ixO (pv 10) (de_neg de_int) (fun _ _ => rfl))) (da_cons (de_op dop_add (de_var (pv 12)) (de_ix dix (de_var (pv 9)) (de_op dop_add (de_var (pv 11)) de_int) (fun _ _ => rfl))) da_nil)))) da_nil))))))))
    (dss_one (ds_drop (ps_expr (de_mt PySem.F.plainAttrs_list PySem.F.slot_list_append PySem.F.type_list_append dmt_append (pv 7) (da_cons (de_callTy dcl_tup (by rfl) T.m_tuple bt_tuple (da_cons (de_revO (pv 10)) da_nil)) da_nil)))))))))
    (dss_one (ds_ret (de_callTy dcl_tup (by rfl) T.m_tuple bt_tuple (da_cons (de_revO (pv 7)) da_nil)))))))
theorem ok_near_price (T : Txt K mg) : FnD P w K mg base 2 T.a_near_price T.fd_near_price ["pitches", "others", "prices", "v"] F_near_price := by
  refine fnd_of T.F_near_price sc_near_price (fun cdv A outer s H E hg0 hr => ?_)
  have hgu : (A.deeper (envOfC "near_price" (defScope s_near_price) s.heap.objs.size T.a_near_price cdv)).guards = some [] := hg0
  have hu := hr.units
  exact (dss_one (ds_ret (de_callB (dcl_min (by rfl) hu) (by rfl) T.m_min bt_min (da_cons (de_ix dix (de_fn (ok_table_for T) hgu (hr.mono (by first | decide | omega)) rfl (by rfl) T.g_table_for T.F_table_for.kp T.b_table_for (da_cons (de_var (pv 0)) (da_cons (de_var (pv 1)) (da_cons (de_var (pv 2)) (da_cons (de_var (pv 3)) da_nil)))) (lenC (lenC (lenC (lenC lenN'))))) de_int (fun _ _ => rfl)) da_nil))))
theorem ok_law_well (T : Txt K mg) : FnD P w K mg base 1 T.a_law_well T.fd_law_well ["script"] F_law_well := by
  refine fnd_of T.F_law_well sc_law_well (fun cdv A outer s H E hg0 hr => ?_)
  have hgu : (A.deeper (envOfC "_law_well" (defScope s_law_well) s.heap.objs.size T.a_law_well cdv)).guards = some [] := hg0
  have hu := hr.units
  exact (dss_cons (ds_par (fun _ _ _ h => xS_np h) (fun _ _ _ h => xS_np h) (ps_par (by rfl) sc_law_well.nd rfl rfl (by decide) rfl rfl (pa_cons (dx_s (de_fz (do_lc (by decide) (pe_lc (own := [("cell", 3)]) (by rfl) sc_law_well.nd (di_it (de_slS (pv 0) dp_none (dp_some de_int))) (blkOk_by (own := [("cell", 3)]) (N := N_law_well) (sc := defScope s_law_well) (by decide +kernel)) (fun _ _ _ _ _ => (dg_n (pg_name (i := 3) sc_law_well.nd rfl (Or.inl rfl)))) (fun _ _ _ _ _ => dts_nil) (fun _ _ _ _ _ => (de_op dop_add (de_op dop_mul de_int (de_callB dcl_abs (by rfl) T.m_abs bt_abs (da_cons (de_var (pv 3)) da_nil))) (de_callTy dcl_int (by rfl) T.m_int bt_int (da_cons (de_cmp dcm_lt (de_var (pv 3)) de_int (nomark _)) da_nil)))))))) (pa_cons (dx_s (de_op dop_add de_int (de_lenS (by rfl) T.m_len (pv 0)))) pa_nil)) (by rfl)))
    (dss_cons (ds_for (ps_for PassesOwn.never (by rfl) (di_it (de_var (pv 1))) (dg_n (pg_name (i := 3) sc_law_well.nd rfl (Or.inl rfl))) (dss_one (ds_set (ps_set (i := 2) sc_law_well.nd rfl (.inl rfl) (de_op dop_mod (de_callTy dcl_int (by rfl) T.m_int bt_int (da_cons (de_op dop_add (de_op dop_mul (de_var (pv 2)) de_int) (de_var (pv 3))) da_nil)) de_int))))))
    (dss_one (ds_retO (do_well (do_lc (by decide) (pe_lc (own := [("cell", 3)]) (by rfl) sc_law_well.nd (di_it (de_var (pv 1))) (blkOk_by (own := [("cell", 3)]) (N := N_law_well) (sc := defScope s_law_well) (by decide +kernel)) (fun _ _ _ _ _ => (dg_n (pg_name (i := 3) sc_law_well.nd rfl (Or.inl rfl)))) (fun _ _ _ _ _ => (dts_one (dt_cmp dcm_gt (de_var (pv 3)) (de_op dop_pow de_int de_int) (nomark _)))) (fun _ _ _ _ _ => (de_var (pv 3))))) (de_var (pv 2)) de_int)))))
theorem ok_law_draw (T : Txt K mg) : FnD P w K mg base 1 T.a_law_draw T.fd_law_draw ["well", "many"] Fdraw := by
  refine fng_fun T.F_law_draw sc_law_draw (fun vs H Q E ⟨a0, B, S, avs, sv, w, hl, _⟩ => hl) (fun cdv A outer s H vs Q E hg0 hr h => ?_)
  have hu := hr.units
  obtain ⟨a0, B, S, avs, sv, w, hl, R, ff, q⟩ := h
  unfold Fdraw at ff
  split at ff
  case h_2 => cases ff
  rename_i cells s0 c many
  split at ff
  case isFalse => cases ff
  rename_i hm
  cases ff
  obtain ⟨x, y, rfl⟩ : ∃ x y, vs = [x, y] := by
    match vs, hl with
    | [x, y], _ => exact ⟨x, y, rfl⟩
  obtain ⟨f0, hx, ob, nf, _⟩ := R.changeP (k := 0) rfl
  obtain ⟨v1, hy, r1⟩ := R.get_sh (k := 1) rfl
  have hx' : x = .ref a0 := Option.some.inj (Option.some.inj hx)
  have hy' : y = v1 := Option.some.inj (Option.some.inj hy)
  have hy2 := rep_i r1
  subst hx' hy'
  subst hy2
  obtain ⟨b, rfl, ha, hb⟩ := ob
  have nab : b ≠ a0 := fun z => by
    subst z
    rw [ha] at hb
    cases cells with
    | nil => cases hb
    | cons x r => cases hb
  refine ⟨_, pss_cons (ps_if (pt_cmpR (op_neD hu) (pe_ix ix_list (pv 0) pe_int (fun _ _ => rfl)) (pe_lst pa_nil) (nomark _))
     (pss_cons (ps_set (i := 2) sc_law_draw.nd rfl (.inl rfl) (pe_ix ix_list (pe_ix ix_list (pv 0) pe_int (fun _ _ => rfl)) pe_int (fun _ _ => rfl)))
     (pss_cons (ps_asg (pe_op op_fdivN (pv 2) (pv 1)) (pg_sub (pe_ix ix_list (pv 0) pe_int (fun _ _ => rfl)) pe_int set_list))
     (pss_cons (ps_if (pt_cmpR op_lt (pv 2) (pv 1) (nomark _)) (pss_one (ps_expr (pe_bm PySem.F.plainAttrs_list PySem.F.slot_list_pop PySem.F.type_list_pop mt_popAt (pe_ix ix_list (pv 0) pe_int (fun _ _ => rfl)) (pa_cons pe_int pa_nil)))) pss_nil)
     (pss_one (ps_ret (pe_op op_modN (pe_callTy call_int1 (by rfl) T.m_int bt_int (pa_cons (pv 2) pa_nil)) (pv 1)))))))
    pss_nil)
   (pss_cons (ps_asg (pe_op op_add (pe_ix ix_list (pv 0) pe_int (fun _ _ => rfl)) pe_int) (pg_sub (pv 0) pe_int set_list))
   (pss_cons (ps_set (i := 3) sc_law_draw.nd rfl (.inl rfl) (pe_op op_modN (pe_callTy call_int1 (by rfl) T.m_int bt_int (pa_cons (pe_op op_add (pe_ix ix_list (pv 0) pe_int (fun _ _ => rfl)) (pe_op op_mul pe_int (pe_ix ix_list (pv 0) pe_int (fun _ _ => rfl)))) pa_nil)) pe_int))
   (pss_cons (ps_set (i := 3) sc_law_draw.nd rfl (.inl rfl) (pe_op op_modN (pe_callTy call_int1 (by rfl) T.m_int bt_int (pa_cons (pe_op op_add (pe_op op_add (pe_op op_mul (pv 3) (pv 3)) (pe_op op_mul pe_int (pe_ix ix_list (pv 0) pe_int (fun _ _ => rfl)))) pe_int) pa_nil)) pe_int))
   (pss_cons (ps_set (i := 3) sc_law_draw.nd rfl (.inl rfl) (pe_op op_modN (pe_callTy call_int1 (by rfl) T.m_int bt_int (pa_cons (pe_op op_add (pe_op op_mul (pv 3) (pv 3)) (pe_ix ix_list (pv 0) pe_int (fun _ _ => rfl))) pa_nil)) pe_int))
   (pss_one (ps_ret (pe_op op_modN (pe_callTy call_int1 (by rfl) T.m_int bt_int (pa_cons (pe_op op_fdivN (pv 3) pe_int) pa_nil)) (pv 1)))))))), ?_⟩
  -- well[0] != []
  refine ⟨_, rfl, a0, _, 0, .ref b, rfl, rfl, .inl (.inl ha), rfl, Nat.zero_le _, fun p hp => ?_⟩
  have pa : a0 ≠ p := ne_of_none ha hp
  have pb : b ≠ p := ne_of_none hb hp
  have ha1 : (upd H p (.lst [])) a0 = some (.lst [.ref b, .int s0, .int c]) := by rw [upd_ne pa]; exact ha
  have hb1 : (upd H p (.lst [])) b = some (.lst (cells.map V.int)) := by rw [upd_ne pb]; exact hb
  have R1 := R.junk hp (.lst [])
  obtain ⟨f1, hx1, ob1, nf1, back⟩ := R1.changeP (k := 0) rfl
  have ef1 : [a0, b] = f1 := obAt_fun ob1 ⟨b, rfl, ha1, hb1⟩
  subst ef1
  refine ⟨.list (cells.map .int), .list [], .lst (.inl (.inl hb1)) (dpA_ints cells), .lst (.inl (.inl upd_same)) .nil, ints_shaped cells, rfl, _, rfl, ?_⟩
  have fin : ∀ (H' : Hp), ObAt K S H' a0 (drawW cells s0 c many) [a0, b] → (∀ x, x ≠ a0 → x ≠ b → H' x = (upd H p (.lst [])) x) → Q (.int (drawV cells s0 c many)) H' := fun H' ob' same => by
    have R2 := back H' _ [a0, b] ob' (fun x hx _ => by simp at hx; exact same x hx.1 hx.2) (fun x hx => .inl hx)
    exact q _ H' S (Same.refl _) (R2.push_sh (.int _)).fin
  cases cells with
  | nil =>
    rw [show (!PyData.eqv (.list (([] : List Int).map .int)) (.list [])) = false from rfl]
    refine iteF ?_
    -- well[2] = well[2] + 1
    refine ⟨.ref a0, rfl, a0, _, 2, .int c, rfl, rfl, .inl (.inl ha1), rfl, c, 1, rfl, rfl, .ref a0, rfl, a0, _, 2, 2, rfl, rfl, ha1, rfl, ?_⟩
    have ha2 : (upd (upd H p (.lst [])) a0 (.lst [.ref b, .int s0, .int (c + 1)])) a0 = some (.lst [.ref b, .int s0, .int (c + 1)]) := upd_same
    refine ⟨.ref a0, rfl, a0, _, 1, .int s0, rfl, rfl, .inl (.inl ha2), rfl, .ref a0, rfl, a0, _, 2, .int (c + 1), rfl, rfl, .inl (.inl ha2), rfl, _, _, rfl, rfl, .inl ⟨by decide, by decide⟩, _, _, rfl, rfl, .inl ⟨_, rfl, _, _, rfl, rfl, (show ((_ : Int)) ≠ 0 by decide), ?_⟩⟩
    have b1 := fmod_pos (s0 + 2654435761 * (c + 1)) (m := 4294967291) (by decide)
    refine ⟨_, rfl, _, rfl, _, _, rfl, rfl, .inl ⟨by omega, by omega⟩, .ref a0, rfl, a0, _, 2, .int (c + 1), rfl, rfl, .inl (.inl ha2), rfl, _, _, rfl, rfl, .inl ⟨by decide, by decide⟩, _, _, rfl, rfl, _, _, rfl, rfl, .inl ⟨_, rfl, _, _, rfl, rfl, (show ((_ : Int)) ≠ 0 by decide), ?_⟩⟩
    have b2 := fmod_pos ((s0 + 2654435761 * (c + 1)).fmod 4294967291 * (s0 + 2654435761 * (c + 1)).fmod 4294967291 + 40503 * (c + 1) + 7) (m := 4294967279) (by decide)
    refine ⟨_, rfl, _, rfl, _, _, rfl, rfl, .inl ⟨by omega, by omega⟩, .ref a0, rfl, a0, _, 1, .int s0, rfl, rfl, .inl (.inl ha2), rfl, _, _, rfl, rfl, .inl ⟨_, rfl, _, _, rfl, rfl, (show ((_ : Int)) ≠ 0 by decide), ?_⟩⟩
    refine ⟨_, rfl, _, _, rfl, rfl, ⟨by decide, by decide⟩, .inl ⟨_, rfl, .int many, rfl, _, _, rfl, rfl, by omega, ?_⟩⟩
    exact fin _ ⟨b, rfl, ha2, by rw [upd_ne nab]; exact hb1⟩ (fun x h1 h2 => upd_ne h1)
  | cons z r =>
    rw [show (!PyData.eqv (.list ((z :: r).map .int)) (.list [])) = true from rfl]
    refine iteT ?_
    -- cell = well[0][0]; well[0][0] = cell // many
    have ix0 : ixN ((z :: r).map V.int).length 0 = some 0 := by
      rw [List.length_map, List.length_cons]
      unfold ixN
      rw [if_pos (by decide), if_pos (by omega)]
      rfl
    have at0 : ∀ r : List V, atI (V.int z :: r) 0 = some (.int z) := fun r => atI_nat (j := 0) rfl
    refine ⟨.ref a0, rfl, a0, _, 0, .ref b, rfl, rfl, .inl (.inl ha1), rfl, b, _, 0, .int z, rfl, rfl, .inl (.inl hb1), at0 _, ?_⟩
    refine ⟨.int z, rfl, .int many, rfl, z, many, rfl, rfl, ⟨by omega, by omega⟩, .ref a0, rfl, a0, _, 0, .ref b, rfl, rfl, .inl (.inl ha1), rfl, b, _, 0, 0, rfl, rfl, hb1, ix0, ?_⟩
    have ha2 : (upd (upd H p (.lst [])) b (.lst ((z.fdiv many :: r).map V.int))) a0 = some (.lst [.ref b, .int s0, .int c]) := by rw [upd_ne nab.symm]; exact ha1
    refine ⟨.int z, rfl, .int many, rfl, z, many, rfl, rfl, _, rfl, ite2 (fun hlt => ?_) (fun hlt => ?_)⟩
    · have hlt := of_decide_eq_true hlt
      refine ⟨.ref a0, rfl, a0, _, 0, .ref b, rfl, rfl, .inl (.inl ha2), rfl, .inl ⟨rfl, _, .inl (.inl upd_same)⟩, b, _, 0, 0, .int (z.fdiv many), rfl, rfl, upd_same, by decide, by decide, by show seqIndex? 0 _ = some 0; simp [seqIndex?], rfl, ?_⟩
      refine ⟨_, rfl, .inl ⟨_, rfl, .int many, rfl, _, _, rfl, rfl, by omega, ?_⟩⟩
      rw [upd_upd]
      refine fin _ ?_ (fun x h1 h2 => upd_ne h2)
      unfold drawW
      dsimp only
      rw [if_pos hlt]
      exact ⟨b, rfl, by rw [upd_ne nab.symm]; exact ha1, upd_same⟩
    · have hlt : ¬ z < many := fun z => hlt (decide_eq_true z)
      refine ⟨_, rfl, .inl ⟨_, rfl, .int many, rfl, _, _, rfl, rfl, by omega, ?_⟩⟩
      refine fin _ ?_ (fun x h1 h2 => upd_ne h2)
      unfold drawW
      dsimp only
      rw [if_neg hlt]
      exact ⟨b, rfl, ha2, upd_same⟩

theorem ok_law_pick (T : Txt K mg) : FnD P w K mg base 2 T.a_law_pick T.fd_law_pick ["well", "items"] F_law_pick := by
  refine fnd_of T.F_law_pick sc_law_pick (fun cdv A outer s H E hg0 hr => ?_)
  have hgu : (A.deeper (envOfC "_law_pick" (defScope s_law_pick) s.heap.objs.size T.a_law_pick cdv)).guards = some [] := hg0
  have hu := hr.units
  exact (dss_one (ds_ret (de_ix dix (de_var (pv 1)) (de_fnW (ok_law_draw T) hgu (hr.mono (by first | decide | omega)) rfl (by rfl) T.g_law_draw T.F_law_draw.kp T.b_law_draw (pv 0) (da_cons (de_callB dcl_len (by rfl) T.m_len bt_len (da_cons (de_var (pv 1)) da_nil)) da_nil) (lenC lenN')) (fun _ _ => rfl))))
theorem ok_law_ways (T : Txt K mg) : ∀ m : Nat, FnD P w K mg base (m + 1) T.a_law_ways T.fd_law_ways ["pitches", "others", "prices", "v", "i", "j", "end"] (F_law_ways m)
  | 0 => ⟨fun vs H Q E ⟨a0, B, S, avs, sv, w, hl, _⟩ => hl, fun A outer s H args us vs Q E hg hr e0 hb hv ⟨a0, B, S, avs, sv, w, hl, R, ff, q⟩ => by cases ff⟩
  | m + 1 => by
    have Gself := ok_law_ways T m
    refine fnd_of (k := m + 1) T.F_law_ways sc_law_ways (fun cdv A outer s H E hg0 hr => ?_)
    have hgu : (A.deeper (envOfC "_law_ways" (defScope s_law_ways) s.heap.objs.size T.a_law_ways cdv)).guards = some [] := hg0
    have hu := hr.units
    exact (dss_cons (ds_asg (ps_asg (de_var (pv 2)) (dg_t (by rfl) (dgs_cons (dg_n (pg_name (i := 7) sc_law_ways.nd rfl (Or.inl rfl))) (dgs_cons (dg_n (pg_name (i := 8) sc_law_ways.nd rfl (Or.inl rfl))) (dgs_cons (dg_n (pg_name (i := 9) sc_law_ways.nd rfl (Or.inl rfl))) dgs_nil))))))
    (dss_cons (ds_if (dt_cmp (dcm_eq hu) (de_var (pv 4)) (de_callB dcl_len (by rfl) T.m_len bt_len (da_cons (de_var (pv 0)) da_nil)) (nomark _)) (dss_one (ds_ret (de_op dop_mul (de_var (pv 8)) (de_op dop_sub (de_var (pv 6)) (de_var (pv 5)))))) dss_nil)
    (dss_cons (ds_set (ps_set (i := 10) sc_law_ways.nd rfl (.inl rfl) (de_op dop_add (de_var (pv 7)) (de_fn Gself hgu hr rfl (by rfl) T.g_law_ways T.F_law_ways.kp T.b_law_ways (da_cons (de_var (pv 0)) (da_cons (de_var (pv 1)) (da_cons (de_var (pv 2)) (da_cons (de_var (pv 3)) (da_cons (de_op dop_add (de_var (pv 4)) de_int) (da_cons (de_var (pv 5)) (da_cons (de_var (pv 6)) da_nil))))))) (lenC (lenC (lenC (lenC (lenC (lenC (lenC lenN')))))))))))
    (dss_cons (ds_for (ps_for PassesOwn.never (by rfl) (di_r2 (by rfl) T.m_range (da_cons (de_var (pv 5)) (da_cons (de_var (pv 6)) da_nil))) (dg_n (pg_name (i := 11) sc_law_ways.nd rfl (Or.inl rfl))) (dss_cons (ds_set (ps_set (i := 12) sc_law_ways.nd rfl (.inl rfl) (de_if (PW.pt (dw_and (dt_cmp dcm_notN (de_var (pv 3)) de_non (nomark _)) (dw_one_and (dt_cmp (dcm_eq hu) (de_ix dix (de_var (pv 1)) (de_var (pv 11)) (fun _ _ => rfl)) (de_op dop_add (de_ix dix (de_var (pv 0)) (de_var (pv 4)) (fun _ _ => rfl)) (de_var (pv 3))) (nomark _))))) de_int (de_var (pv 9)))))
    (dss_one (ds_set (ps_set (i := 10) sc_law_ways.nd rfl (.inl rfl) (de_callB (dcl_min (by rfl) hu) (by rfl) T.m_min bt_min (da_cons (de_var (pv 10)) (da_cons (de_op dop_add (de_op dop_add (de_op dop_mul (de_var (pv 8)) (de_op dop_sub (de_var (pv 11)) (de_var (pv 5)))) (de_var (pv 12))) (de_fn Gself hgu hr rfl (by rfl) T.g_law_ways T.F_law_ways.kp T.b_law_ways (da_cons (de_var (pv 0)) (da_cons (de_var (pv 1)) (da_cons (de_var (pv 2)) (da_cons (de_var (pv 3)) (da_cons (de_op dop_add (de_var (pv 4)) de_int) (da_cons (de_op dop_add (de_var (pv 11)) de_int) (da_cons (de_var (pv 6)) da_nil))))))) (lenC (lenC (lenC (lenC (lenC (lenC (lenC lenN'))))))))) da_nil)))))))))
    (dss_one (ds_ret (de_var (pv 10))))))))
theorem ok_law_table (T : Txt K mg) : FnD P w K mg base 1 T.a_law_table T.fd_law_table ["pitches", "others", "prices", "v"] F_law_table := by
  refine fnd_of T.F_law_table sc_law_table (fun cdv A outer s H E hg0 hr => ?_)
  have hgu : (A.deeper (envOfC "_law_table" (defScope s_law_table) s.heap.objs.size T.a_law_table cdv)).guards = some [] := hg0
  have hu := hr.units
  exact (dss_cons (ds_asg (ps_asg (de_var (pv 2)) (dg_t (by rfl) (dgs_cons (dg_n (pg_name (i := 4) sc_law_table.nd rfl (Or.inl rfl))) (dgs_cons (dg_n (pg_name (i := 5) sc_law_table.nd rfl (Or.inl rfl))) (dgs_cons (dg_n (pg_name (i := 6) sc_law_table.nd rfl (Or.inl rfl))) dgs_nil))))))
    (dss_cons (ds_set (ps_set (i := 7) sc_law_table.nd rfl (.inl rfl) (de_lst (da_cons (de_op dop_mul (de_tup (da_cons de_int da_nil)) (de_op dop_add (de_callB dcl_len (by rfl) T.m_len bt_len (da_cons (de_var (pv 1)) da_nil)) de_int)) da_nil))))
    (dss_cons (ds_for (ps_for PassesOwn.never (by rfl) (di_it (de_rev (de_var (pv 0)))) (dg_n (pg_name (i := 8) sc_law_table.nd rfl (Or.inl rfl))) (dss_cons (ds_par (fun _ _ _ h => xS_np h) (fun _ _ _ h => xS_np h) (ps_par (by rfl) sc_law_table.nd rfl rfl (by decide) rfl rfl (pa_cons (dx_s (de_ix dix (de_var (pv 7)) de_int (fun _ _ => rfl))) (pa_cons (dx_s (de_lst da_nil)) pa_nil)) (by rfl)))
    (dss_cons (ds_for (ps_for PassesOwn.never (by rfl) (di_r3 (by rfl) T.m_range (da_cons (de_callB dcl_len (by rfl) T.m_len bt_len (da_cons (de_var (pv 1)) da_nil)) (da_cons (de_neg de_int) (da_cons (de_neg de_int) da_nil)))) (dg_n (pg_name (i := 11) sc_law_table.nd rfl (Or.inl rfl))) (dss_cons (ds_set (ps_set (i := 12) sc_law_table.nd rfl (.inl rfl) (de_op dop_add (de_var (pv 4)) (de_ix dix (de_var (pv 9)) (de_var (pv 11)) (fun _ _ => rfl)))))
    (dss_cons (ds_if (dt_cmp dcm_lt (de_var (pv 11)) (de_callB dcl_len (by rfl) T.m_len bt_len (da_cons (de_var (pv 1)) da_nil)) (nomark _)) (dss_cons (ds_set (ps_set (i := 13) sc_law_table.nd rfl (.inl rfl) (de_if (PW.pt (dw_and (dt_cmp dcm_notN (de_var (pv 3)) de_non (nomark _)) (dw_one_and (dt_cmp (dcm_eq hu) (de_ix dix (de_var (pv 1)) (de_var (pv 11)) (fun _ _ => rfl)) (de_op dop_add (de_var (pv 8)) (de_var (pv 3))) (nomark _))))) de_int (de_var (pv 6)))))
    (dss_one (ds_set (ps_set (i := 12) sc_law_table.nd rfl (.inl rfl) (de_callB (dcl_min (by rfl) hu) (by rfl) T.m_min bt_min (da_cons (de_var (pv 12)) (da_cons (de_op dop_add (de_var (pv 13)) (de_ix dix (de_var (pv 9)) (de_op dop_add (de_var (pv 11)) de_int) (fun _ _ => rfl))) (da_cons (de_op dop_add (de_var (pv 5)) (de_ix dix (de_var (pv 10)) de_int (fun _ _ => rfl))) da_nil)))))))) dss_nil)
    (dss_one (ds_set (ps_set (i := 10) sc_law_table.nd rfl (.inl rfl) (de_op dop_add (de_lst (da_cons (de_var (pv 12)) da_nil)) (de_var (pv 10))))))))))
    (dss_one (ds_set (ps_set (i := 7) sc_law_table.nd rfl (.inl rfl) (de_op dop_add (de_lst (da_cons (de_callTy dcl_tup (by rfl) T.m_tuple bt_tuple (da_cons (de_var (pv 10)) da_nil)) da_nil)) (de_var (pv 7))))))))))
    (dss_one (ds_ret (de_callTy dcl_tup (by rfl) T.m_tuple bt_tuple (da_cons (de_var (pv 7)) da_nil)))))))
theorem ok_law_differences (T : Txt K mg) : FnD P w K mg base 1 T.a_law_differences T.fd_law_differences ["pitches", "others"] F_law_differences := by
  refine fnd_of T.F_law_differences sc_law_differences (fun cdv A outer s H E hg0 hr => ?_)
  have hgu : (A.deeper (envOfC "_law_differences" (defScope s_law_differences) s.heap.objs.size T.a_law_differences cdv)).guards = some [] := hg0
  have hu := hr.units
  exact (dss_cons (ds_setO (ps_set (i := 2) sc_law_differences.nd rfl (.inl rfl) do_d0))
    (dss_cons (ds_for (ps_for PassesOwn.never (by rfl) (di_it (de_var (pv 0))) (dg_n (pg_name (i := 3) sc_law_differences.nd rfl (Or.inl rfl))) (dss_one (ds_for (ps_for PassesOwn.never (by rfl) (di_it (de_var (pv 1))) (dg_n (pg_name (i := 4) sc_law_differences.nd rfl (Or.inl rfl))) (dss_one (ds_dput (ps_dput (hu_of hr) (pv 2) (de_op dop_sub (de_var (pv 4)) (de_var (pv 3))) de_bl rfl))))))))
    (dss_one (ds_ret (de_fz (do_sortK (by rfl) (by rfl) T.m_sorted (pv 2)))))))
theorem ok_law_items (T : Txt K mg) : FnD P w K mg base 3 T.a_law_items T.fd_law_items ["well", "many"] F_law_items := by
  refine fnd_of T.F_law_items sc_law_items (fun cdv A outer s H E hg0 hr => ?_)
  have hgu : (A.deeper (envOfC "_law_items" (defScope s_law_items) s.heap.objs.size T.a_law_items cdv)).guards = some [] := hg0
  have hu := hr.units
  exact (dss_cons (ds_asg (ps_asg (de_tup (da_cons (de_fnW (ok_law_draw T) hgu (hr.mono (by first | decide | omega)) rfl (by rfl) T.g_law_draw T.F_law_draw.kp T.b_law_draw (pv 0) (da_cons de_int da_nil) (lenC lenN')) (da_cons (de_fnW (ok_law_pick T) hgu (hr.mono (by first | decide | omega)) rfl (by rfl) T.g_law_pick T.F_law_pick.kp T.b_law_pick (pv 0) (da_cons (de_lst (da_cons de_int (da_cons de_int (da_cons de_int (da_cons de_int (da_cons de_int da_nil)))))) da_nil) (lenC lenN')) da_nil))) (dg_t (by rfl) (dgs_cons (dg_n (pg_name (i := 2) sc_law_items.nd rfl (Or.inr rfl))) (dgs_cons (dg_n (pg_name (i := 3) sc_law_items.nd rfl (Or.inr rfl))) dgs_nil)))))
    (dss_one (ds_ret (de_callTy dcl_tup (by rfl) T.m_tuple bt_tuple (da_cons (de_fz (do_lc (by decide) (pe_lc (own := [("turn", 4)]) (by rfl) sc_law_items.nd (di_r1 (by rfl) T.m_range (da_cons (de_var (pv 1)) da_nil)) (blkOk_by (own := [("turn", 4)]) (N := N_law_items) (sc := defScope s_law_items) (by decide +kernel)) (fun _ _ _ _ _ => (dg_n (pg_name (i := 4) sc_law_items.nd rfl (Or.inl rfl)))) (fun _ _ _ _ _ => dts_nil) (fun _ _ _ _ _ => (de_op dop_add (de_var (pv 2)) (de_fnW (ok_law_draw T) hgu (hr.mono (by first | decide | omega)) rfl (by rfl) T.g_law_draw T.F_law_draw.kp T.b_law_draw (pv 0) (da_cons (de_var (pv 3)) da_nil) (lenC lenN'))))))) da_nil)))))
theorem ok_law_prices (T : Txt K mg) : FnD P w K mg base 3 T.a_law_prices T.fd_law_prices ["well"] F_law_prices := by
  refine fnd_of T.F_law_prices sc_law_prices (fun cdv A outer s H E hg0 hr => ?_)
  have hgu : (A.deeper (envOfC "_law_prices" (defScope s_law_prices) s.heap.objs.size T.a_law_prices cdv)).guards = some [] := hg0
  have hu := hr.units
  exact (dss_one (ds_ret (de_callTy dcl_tup (by rfl) T.m_tuple bt_tuple (da_cons (de_fz (do_lc (by decide) (pe_lc (own := [("turn", 1)]) (by rfl) sc_law_prices.nd (di_r1 (by rfl) T.m_range (da_cons de_int da_nil)) (blkOk_by (own := [("turn", 1)]) (N := N_law_prices) (sc := defScope s_law_prices) (by decide +kernel)) (fun _ _ _ _ _ => (dg_n (pg_name (i := 1) sc_law_prices.nd rfl (Or.inl rfl)))) (fun _ _ _ _ _ => dts_nil) (fun _ _ _ _ _ => (de_fnW (ok_law_pick T) hgu (hr.mono (by first | decide | omega)) rfl (by rfl) T.g_law_pick T.F_law_pick.kp T.b_law_pick (pv 0) (da_cons (de_lst (da_cons de_int (da_cons de_int (da_cons de_int (da_cons de_int (da_cons de_int (da_cons de_int (da_cons de_int da_nil)))))))) da_nil) (lenC lenN')))))) da_nil))))
theorem ok_law_asked (T : Txt K mg) : FnD P w K mg base 4 T.a_law_asked T.fd_law_asked ["well", "rows", "columns"] F_law_asked := by
  refine fnd_of T.F_law_asked sc_law_asked (fun cdv A outer s H E hg0 hr => ?_)
  have hgu : (A.deeper (envOfC "_law_asked" (defScope s_law_asked) s.heap.objs.size T.a_law_asked cdv)).guards = some [] := hg0
  have hu := hr.units
  exact (dss_cons (ds_set (ps_set (i := 3) sc_law_asked.nd rfl (.inl rfl) (de_fnW (ok_law_items T) hgu (hr.mono (by first | decide | omega)) rfl (by rfl) T.g_law_items T.F_law_items.kp T.b_law_items (pv 0) (da_cons (de_op dop_add de_int (de_fnW (ok_law_draw T) hgu (hr.mono (by first | decide | omega)) rfl (by rfl) T.g_law_draw T.F_law_draw.kp T.b_law_draw (pv 0) (da_cons (de_var (pv 1)) da_nil) (lenC lenN'))) da_nil) (lenC lenN'))))
    (dss_cons (ds_par (fun _ _ _ h => xS_np h) (fun _ _ _ h => xS_np h) (ps_par (by rfl) sc_law_asked.nd rfl rfl (by decide) rfl rfl (pa_cons (dx_s (de_fnW (ok_law_items T) hgu (hr.mono (by first | decide | omega)) rfl (by rfl) T.g_law_items T.F_law_items.kp T.b_law_items (pv 0) (da_cons (de_fnW (ok_law_draw T) hgu (hr.mono (by first | decide | omega)) rfl (by rfl) T.g_law_draw T.F_law_draw.kp T.b_law_draw (pv 0) (da_cons (de_op dop_add (de_var (pv 2)) de_int) da_nil) (lenC lenN')) da_nil) (lenC lenN'))) (pa_cons (dx_s (de_fnW (ok_law_draw T) hgu (hr.mono (by first | decide | omega)) rfl (by rfl) T.g_law_draw T.F_law_draw.kp T.b_law_draw (pv 0) (da_cons de_int da_nil) (lenC lenN'))) pa_nil)) (by rfl)))
    (dss_cons (ds_if (dt_cmp dcm_gt (de_var (pv 5)) de_int (nomark _)) (dss_cons (ds_asg (ps_asg (de_tup (da_cons (de_op dop_sub (de_fnW (ok_law_draw T) hgu (hr.mono (by first | decide | omega)) rfl (by rfl) T.g_law_draw T.F_law_draw.kp T.b_law_draw (pv 0) (da_cons de_int da_nil) (lenC lenN')) de_int) (da_cons (de_callB (dcl_min (by rfl) hu) (by rfl) T.m_min bt_min (da_cons (de_var (pv 3)) da_nil)) da_nil))) (dg_t (by rfl) (dgs_cons (dg_n (pg_name (i := 6) sc_law_asked.nd rfl (Or.inr rfl))) (dgs_cons (dg_n (pg_name (i := 7) sc_law_asked.nd rfl (Or.inl rfl))) dgs_nil)))))
    (dss_cons (ds_setLcO (by decide) (ps_setLc (i := 8) (own := [("own", 10)]) (by rfl) sc_law_asked.nd rfl rfl (sw_true rfl rfl rfl (by decide +kernel)) (di_it (de_var (pv 3))) (blkOk_by (own := [("own", 10)]) (N := N_law_asked) (sc := defScope s_law_asked) (by decide +kernel)) (fun _ _ _ _ _ => (dg_n (pg_name (i := 10) sc_law_asked.nd rfl (Or.inl rfl)))) (fun _ _ _ _ _ => dts_nil) (fun _ _ _ _ _ => (de_callB (dcl_max (by rfl) hu) (by rfl) T.m_max bt_max (da_cons de_int (da_cons (de_callB (dcl_min (by rfl) hu) (by rfl) T.m_min bt_min (da_cons de_int (da_cons (de_op dop_add (de_var (pv 10)) (de_var (pv 6))) da_nil))) da_nil))))))
    (dss_cons (ds_for (ps_for PassesOwn.never (by rfl) (di_r1 (by rfl) T.m_range (da_cons (de_fnW (ok_law_draw T) hgu (hr.mono (by first | decide | omega)) rfl (by rfl) T.g_law_draw T.F_law_draw.kp T.b_law_draw (pv 0) (da_cons de_int da_nil) (lenC lenN')) da_nil)) (dg_n (pg_name (i := 9) sc_law_asked.nd rfl (Or.inl rfl))) (dss_one (ds_drop (ps_expr (de_mt PySem.F.plainAttrs_list PySem.F.slot_list_insert PySem.F.type_list_insert dmt_insert (pv 8) (da_cons (de_fnW (ok_law_draw T) hgu (hr.mono (by first | decide | omega)) rfl (by rfl) T.g_law_draw T.F_law_draw.kp T.b_law_draw (pv 0) (da_cons (de_op dop_add (de_ownB dol_len (by rfl) T.m_len bt_len (pv 8)) de_int) da_nil) (lenC lenN')) (da_cons (de_var (pv 7)) da_nil))))))))
    (dss_one (ds_set (ps_set (i := 4) sc_law_asked.nd rfl (.inl rfl) (de_callTy dcl_tup (by rfl) T.m_tuple bt_tuple (da_cons (de_slO (pv 8) dp_none (dp_some (de_var (pv 2)))) da_nil)))))))) dss_nil)
    (dss_one (ds_ret (de_tup (da_cons (de_var (pv 3)) (da_cons (de_var (pv 4)) (da_cons (de_fnW (ok_law_prices T) hgu (hr.mono (by first | decide | omega)) rfl (by rfl) T.g_law_prices T.F_law_prices.kp T.b_law_prices (pv 0) da_nil lenN') da_nil)))))))))
def b_law_least : FS :=
    (bSeq (bSetO 4 (fLstO fNil))
    (bSeq (bFor (fR1 (fCons (fOp gAdd (fCall gLen (fCons (fVar 1) fNil)) (fC (.int 1))) fNil)) (gtN 5) (bFor (fR2 (fCons (fVar 5) (fCons (fOp gAdd (fCall gLen (fCons (fVar 1) fNil)) (fC (.int 1))) fNil))) (gtN 6) (bDrop (fMt 4 gAppend (fCons (fFn (F_law_ways 8) (fCons (fVar 0) (fCons (fVar 1) (fCons (fVar 2) (fCons (fVar 3) (fCons (fC (.int 0)) (fCons (fVar 5) (fCons (fVar 6) fNil)))))))) fNil)))))
    (bRet (fCall gMin (fCons (fFz 4) fNil)))))
def F_law_least : SF := runD 7 b_law_least
theorem ok_law_least (T : Txt K mg) : FnD P w K mg base 10 T.a_law_least T.fd_law_least ["pitches", "others", "prices", "v"] F_law_least := by
  refine fnd_of T.F_law_least sc_law_least (fun cdv A outer s H E hg0 hr => ?_)
  have hgu : (A.deeper (envOfC "_law_least" (defScope s_law_least) s.heap.objs.size T.a_law_least cdv)).guards = some [] := hg0
  have hu := hr.units
  exact (dss_cons (ds_setO (ps_set (i := 4) sc_law_least.nd rfl (.inl rfl) (do_lst da_nil)))
    (dss_cons (ds_for (ps_for PassesOwn.never (by rfl) (di_r1 (by rfl) T.m_range (da_cons (de_op dop_add (de_callB dcl_len (by rfl) T.m_len bt_len (da_cons (de_var (pv 1)) da_nil)) de_int) da_nil)) (dg_n (pg_name (i := 5) sc_law_least.nd rfl (Or.inl rfl))) (dss_one (ds_for (ps_for PassesOwn.never (by rfl) (di_r2 (by rfl) T.m_range (da_cons (de_var (pv 5)) (da_cons (de_op dop_add (de_callB dcl_len (by rfl) T.m_len bt_len (da_cons (de_var (pv 1)) da_nil)) de_int) da_nil))) (dg_n (pg_name (i := 6) sc_law_least.nd rfl (Or.inl rfl))) (dss_one (ds_drop (ps_expr (de_mt PySem.F.plainAttrs_list PySem.F.slot_list_append PySem.F.type_list_append dmt_append (pv 4) (da_cons (de_fn (ok_law_ways T 8) hgu (hr.mono (by first | decide | omega)) rfl (by rfl) T.g_law_ways T.F_law_ways.kp T.b_law_ways (da_cons (de_var (pv 0)) (da_cons (de_var (pv 1)) (da_cons (de_var (pv 2)) (da_cons (de_var (pv 3)) (da_cons de_int (da_cons (de_var (pv 5)) (da_cons (de_var (pv 6)) da_nil))))))) (lenC (lenC (lenC (lenC (lenC (lenC (lenC lenN')))))))) da_nil))))))))))
    (dss_one (ds_ret (de_callB (dcl_min (by rfl) hu) (by rfl) T.m_min bt_min (da_cons (de_fzv (pv 4)) da_nil))))))
def b_law : FS :=
    (bSeq (bSetO 1 (fFnS F_law_well 0))
    (bSeq (bFor (fIt (fLst (fCons (fTup (fCons (fC (.int 2)) (fCons (fC (.int 5)) fNil))) (fCons (fTup (fCons (fC (.int 3)) (fCons (fC (.int 4)) fNil))) (fCons (fTup (fCons (fC (.int 4)) (fCons (fC (.int 4)) fNil))) (fCons (fTup (fCons (fC (.int 3)) (fCons (fC (.int 5)) fNil))) fNil)))))) (gtT 2 (gtCons (gtN 2) (gtCons (gtN 3) gtNil))) (bSeq (bAsg (gtT 3 (gtCons (gtN 4) (gtCons (gtN 5) (gtCons (gtN 6) gtNil)))) (fFnW F_law_asked 1 (fCons (fVar 2) (fCons (fVar 3) fNil))))
    (bSeq (bPar 7 8 (xS (fCall gRepr (fCons (fLst (fCons (fVar 4) (fCons (fVar 5) (fCons (fVar 6) fNil)))) fNil))) (xS (fFn F_law_differences (fCons (fVar 4) (fCons (fVar 5) fNil)))))
    (bSeq (bSet 9 (fFnW F_law_pick 1 (fCons (fOp gAdd (fVar 8) (fLst (fCons (fC (.int 0)) (fCons (fC (.int 0)) (fCons (fC (.int 1)) (fCons (fNeg (fC (.int 1))) (fCons (fC (.int 200)) (fCons (fNeg (fOp gPow (fC (.int 10)) (fC (.int 20)))) fNil)))))))) fNil)))
    (bSeq (bSet 10 (fFn F_law_least (fCons (fVar 4) (fCons (fVar 5) (fCons (fVar 6) (fCons (fVar 9) fNil))))))
    (bSeq (bIf (fCmp gNeS (fCall gRepr (fCons (fFn F_near_price (fCons (fVar 4) (fCons (fVar 5) (fCons (fVar 6) (fCons (fVar 9) fNil))))) fNil)) (fCall gRepr (fCons (fVar 10) fNil))) (bRet (fC (.bool false))) bNil)
    (bSeq (bIf (fCmp gNeS (fCall gRepr (fCons (fFnK F_near_price [3, 2, 1, 0] 4 (fCons (fVar 9) (fCons (fVar 6) (fCons (fVar 5) (fCons (fVar 4) fNil))))) fNil)) (fCall gRepr (fCons (fVar 10) fNil))) (bRet (fC (.bool false))) bNil)
    (bSeq (bSet 11 (fFrz (fLc (fIt (fTup (fCons (fC (.int 300)) (fCons (fNeg (fC (.int 301))) (fCons (fOp gPow (fC (.int 10)) (fC (.int 30))) fNil))))) (gtN 12) fYes (fFn F_near_price (fCons (fVar 4) (fCons (fVar 5) (fCons (fVar 6) (fCons (fVar 12) fNil))))) [12])))
    (bSeq (bIf (fCmp gNeS (fCall gRepr (fCons (fVar 11) fNil)) (fCall gRepr (fCons (fOp gMulL (fLst (fCons (fCall gMin (fCons (fOp gIx (fFn F_law_table (fCons (fVar 4) (fCons (fVar 5) (fCons (fVar 6) (fCons (fC .none) fNil))))) (fC (.int 0))) fNil)) fNil)) (fC (.int 3))) fNil))) (bRet (fC (.bool false))) bNil)
    (bIf (fCmp gNeS (fCall gRepr (fCons (fLst (fCons (fVar 4) (fCons (fVar 5) (fCons (fVar 6) fNil)))) fNil)) (fVar 7)) (bRet (fC (.bool false))) bNil))))))))))
    (bRet (fC (.bool true)))))
def F_law : SF := runD 13 b_law
theorem ok_law (T : Txt K mg) : FnD P w K mg base 11 T.a_law T.fd_law ["script"] F_law := by
  refine fnd_of T.F_law sc_law (fun cdv A outer s H E hg0 hr => ?_)
  have hgu : (A.deeper (envOfC "law" (defScope s_law) s.heap.objs.size T.a_law cdv)).guards = some [] := hg0
  have hu := hr.units
  exact (dss_cons (ds_setO (ps_set (i := 1) sc_law.nd rfl (.inl rfl) (do_fnS (ok_law_well T) hgu (hr.mono (by first | decide | omega)) rfl (by rfl) T.g_law_well T.F_law_well.kp T.b_law_well (pv 0))))
    (dss_cons (ds_for (ps_for PassesOwn.never (by rfl) (di_it (de_lst (da_cons (de_tup (da_cons de_int (da_cons de_int da_nil))) (da_cons (de_tup (da_cons de_int (da_cons de_int da_nil))) (da_cons (de_tup (da_cons de_int (da_cons de_int da_nil))) (da_cons (de_tup (da_cons de_int (da_cons de_int da_nil))) da_nil)))))) (dg_t (by rfl) (dgs_cons (dg_n (pg_name (i := 2) sc_law.nd rfl (Or.inl rfl))) (dgs_cons (dg_n (pg_name (i := 3) sc_law.nd rfl (Or.inl rfl))) dgs_nil))) (dss_cons (ds_asg (ps_asg (de_fnW (ok_law_asked T) hgu (hr.mono (by first | decide | omega)) rfl (by rfl) T.g_law_asked T.F_law_asked.kp T.b_law_asked (pv 1) (da_cons (de_var (pv 2)) (da_cons (de_var (pv 3)) da_nil)) (lenC (lenC lenN'))) (dg_t (by rfl) (dgs_cons (dg_n (pg_name (i := 4) sc_law.nd rfl (Or.inr rfl))) (dgs_cons (dg_n (pg_name (i := 5) sc_law.nd rfl (Or.inr rfl))) (dgs_cons (dg_n (pg_name (i := 6) sc_law.nd rfl (Or.inr rfl))) dgs_nil))))))
    (dss_cons (ds_par (fun _ _ _ h => xS_np h) (fun _ _ _ h => xS_np h) (ps_par (by rfl) sc_law.nd rfl rfl (by decide) rfl rfl (pa_cons (dx_s (de_callB (dcl_repr hgu hu) (by rfl) T.m_repr bt_repr (da_cons (de_lst (da_cons (de_var (pv 4)) (da_cons (de_var (pv 5)) (da_cons (de_var (pv 6)) da_nil)))) da_nil))) (pa_cons (dx_s (de_fn (ok_law_differences T) hgu (hr.mono (by first | decide | omega)) rfl (by rfl) T.g_law_differences T.F_law_differences.kp T.b_law_differences (da_cons (de_var (pv 4)) (da_cons (de_var (pv 5)) da_nil)) (lenC (lenC lenN')))) pa_nil)) (by rfl)))
    (dss_cons (ds_set (ps_set (i := 9) sc_law.nd rfl (.inl rfl) (de_fnW (ok_law_pick T) hgu (hr.mono (by first | decide | omega)) rfl (by rfl) T.g_law_pick T.F_law_pick.kp T.b_law_pick (pv 1) (da_cons (de_op dop_add (de_var (pv 8)) (de_lst (da_cons de_int (da_cons de_int (da_cons de_int (da_cons (de_neg de_int) (da_cons de_int (da_cons (de_neg (de_op dop_pow de_int de_int)) da_nil)))))))) da_nil) (lenC lenN'))))
    (dss_cons (ds_set (ps_set (i := 10) sc_law.nd rfl (.inl rfl) (de_fn (ok_law_least T) hgu (hr.mono (by first | decide | omega)) rfl (by rfl) T.g_law_least T.F_law_least.kp T.b_law_least (da_cons (de_var (pv 4)) (da_cons (de_var (pv 5)) (da_cons (de_var (pv 6)) (da_cons (de_var (pv 9)) da_nil)))) (lenC (lenC (lenC (lenC lenN')))))))
    (dss_cons (ds_if (dt_cmp dcm_neS (de_callB (dcl_repr hgu hu) (by rfl) T.m_repr bt_repr (da_cons (de_fn (ok_near_price T) hgu (hr.mono (by first | decide | omega)) rfl (by rfl) T.g_near_price T.F_near_price.kp T.b_near_price (da_cons (de_var (pv 4)) (da_cons (de_var (pv 5)) (da_cons (de_var (pv 6)) (da_cons (de_var (pv 9)) da_nil)))) (lenC (lenC (lenC (lenC lenN'))))) da_nil)) (de_callB (dcl_repr hgu hu) (by rfl) T.m_repr bt_repr (da_cons (de_var (pv 10)) da_nil)) (nomark _)) (dss_one (ds_ret de_bl)) dss_nil)
    (dss_cons (ds_if (dt_cmp dcm_neS (de_callB (dcl_repr hgu hu) (by rfl) T.m_repr bt_repr (da_cons (de_fnK (ok_near_price T) hgu (hr.mono (by first | decide | omega)) rfl (by rfl) T.g_near_price T.F_near_price.kp T.k0_near_price (dk_cons (de_var (pv 9)) (dk_cons (de_var (pv 6)) (dk_cons (de_var (pv 5)) (dk_cons (de_var (pv 4)) dk_nil))))) da_nil)) (de_callB (dcl_repr hgu hu) (by rfl) T.m_repr bt_repr (da_cons (de_var (pv 10)) da_nil)) (nomark _)) (dss_one (ds_ret de_bl)) dss_nil)
    (dss_cons (ds_setLc (by decide) (ps_setLc (i := 11) (own := [("own", 12)]) (by rfl) sc_law.nd rfl rfl (sw_true rfl rfl rfl (by decide +kernel)) (di_it (de_tup (da_cons de_int (da_cons (de_neg de_int) (da_cons (de_op dop_pow de_int de_int) da_nil))))) (blkOk_by (own := [("own", 12)]) (N := N_law) (sc := defScope s_law) (by decide +kernel)) (fun _ _ _ _ _ => (dg_n (pg_name (i := 12) sc_law.nd rfl (Or.inl rfl)))) (fun _ _ _ _ _ => dts_nil) (fun _ _ _ _ _ => (de_fn (ok_near_price T) hgu (hr.mono (by first | decide | omega)) rfl (by rfl) T.g_near_price T.F_near_price.kp T.b_near_price (da_cons (de_var (pv 4)) (da_cons (de_var (pv 5)) (da_cons (de_var (pv 6)) (da_cons (de_var (pv 12)) da_nil)))) (lenC (lenC (lenC (lenC lenN'))))))))
    (dss_cons (ds_if (dt_cmp dcm_neS (de_callB (dcl_repr hgu hu) (by rfl) T.m_repr bt_repr (da_cons (de_var (pv 11)) da_nil)) (de_callB (dcl_repr hgu hu) (by rfl) T.m_repr bt_repr (da_cons (de_op dop_mulL (de_lst (da_cons (de_callB (dcl_min (by rfl) hu) (by rfl) T.m_min bt_min (da_cons (de_ix dix (de_fn (ok_law_table T) hgu (hr.mono (by first | decide | omega)) rfl (by rfl) T.g_law_table T.F_law_table.kp T.b_law_table (da_cons (de_var (pv 4)) (da_cons (de_var (pv 5)) (da_cons (de_var (pv 6)) (da_cons de_non da_nil)))) (lenC (lenC (lenC (lenC lenN'))))) de_int (fun _ _ => rfl)) da_nil)) da_nil)) de_int) da_nil)) (nomark _)) (dss_one (ds_ret de_bl)) dss_nil)
    (dss_one (ds_if (dt_cmp dcm_neS (de_callB (dcl_repr hgu hu) (by rfl) T.m_repr bt_repr (da_cons (de_lst (da_cons (de_var (pv 4)) (da_cons (de_var (pv 5)) (da_cons (de_var (pv 6)) da_nil)))) da_nil)) (de_var (pv 7)) (nomark _)) (dss_one (ds_ret de_bl)) dss_nil))))))))))))
    (dss_one (ds_ret de_bl))))
end K64

set_option Elab.async false
set_option linter.all false
set_option maxRecDepth 100000
set_option maxHeartbeats 4000000
/-! the law of prices of all near ways: what it gives -/
namespace K64
open PySem L2 DL Near
local macro_rules | `(tactic| sizeOf_list_dec) => `(tactic| first
  | with_reducible refine ws_for ?_ | with_reducible refine wx_lc ?_ | with_reducible refine wx_r1 ?_ | with_reducible refine wx_r2 ?_ | with_reducible refine wx_r3 ?_ | with_reducible refine wx_it ?_ | with_reducible refine wx_noP ?_ | with_reducible refine wx_part ?_ | with_reducible refine wx_sl ?_ | with_reducible refine wx_rev ?_ | with_reducible refine wx_bmT ?_ | with_reducible refine wx_callO ?_ | with_reducible refine wx_opO ?_ | with_reducible refine wx_or ?_ | with_reducible refine wx_and ?_ | with_reducible refine wx_ife ?_
  | with_reducible refine ws_seq ?_ | with_reducible refine ws_set ?_ | with_reducible refine ws_setO ?_ | with_reducible refine ws_ret ?_ | with_reducible refine ws_retO ?_ | with_reducible refine ws_drop ?_ | with_reducible refine ws_asg ?_ | with_reducible refine ws_par ?_ | with_reducible refine ws_if ?_ | with_reducible refine ws_nil ?_
  | with_reducible refine wx_xS ?_ | with_reducible refine wx_xO ?_ | with_reducible refine wx_c ?_ | with_reducible refine wx_cons ?_ | with_reducible refine wx_nil ?_ | with_reducible refine wx_op ?_ | with_reducible refine wx_call ?_ | with_reducible refine wx_tup ?_ | with_reducible refine wx_lst ?_ | with_reducible refine wx_lstO ?_ | with_reducible refine wx_negc ?_ | with_reducible refine wx_neg ?_ | with_reducible refine wx_fnK ?_
  | with_reducible refine wx_cmp ?_ | with_reducible refine wx_bl ?_ | with_reducible refine wx_te ?_ | with_reducible refine wx_not ?_ | with_reducible refine wx_frz ?_ | with_reducible refine wx_fn ?_
  | ((with_reducible apply wx_var); exact rfl) | ((with_reducible apply wx_revO); exact rfl) | ((with_reducible apply wx_ixO); exact rfl) | ((with_reducible apply wx_mt); exact rfl)
  | ((with_reducible apply And.intro); exact lel rfl) | ((with_reducible apply Exists.intro); refine And.intro rfl ?_) | ((with_reducible apply Exists.intro); refine And.intro (gEq_int _ _) ?_) | ((with_reducible apply Exists.intro); refine And.intro (gNe_int _ _) ?_)
 
  | ((with_reducible apply And.intro); exact rfl; exact rfl))

theorem min_LT {xs : List Int} (h : xs ≠ []) : gMin [.list (xs.map PyData.int)] = some (.int (minL xs)) := by
  cases xs with
  | nil => exact absurd rfl h
  | cons x xs =>
    show (match intsOf ((x :: xs).map PyData.int) with | some (n :: ns) => some (PyData.int (ns.foldl min n)) | _ => none) = _
    rw [intsOf_map]; rfl
theorem least_val {l q c : Int} {vD : D} {vo : Option Int} (hv : IsV vD vo) (hq : 0 ≤ q ∧ q < 2 ^ 64) (ps os : List Int) (hp : ps.length ≤ 7) (ho : os.length ≤ 400) :
    F_law_least [.sh (IT ps), .sh (IT os), .sh (.tuple [.int l, .int q, .int c]), .sh vD] = some (.sh (.int (npr l q (dv c vo) ps os)), .un) := by
  refine run_eq ?_
  unfold b_law_least
  repeat sizeOf_list_dec
  rw [List.length_map]
  refine ⟨⟨by omega, by omega⟩, ?_⟩
  have hl1 : (upI 0 ((os.length : Int) + 1).toNat).length = os.length + 1 := by unfold upI; rw [List.length_map, List.length_range]; omega
  refine ⟨fun i ρ => ∃ xs a5 a6, ρ = [.sh (IT ps), .sh (IT os), .sh (.tuple [.int l, .int q, .int c]), .sh vD, .ow (.lst (xs.map PyData.int)), a5, a6] ∧ xs.length ≤ 500 * i ∧ (∀ x ∈ xs, npr l q (dv c vo) ps os ≤ x) ∧ ∀ b e, b < i → b ≤ e → e ≤ os.length → wy l q (dv c vo) ps ((os.drop b).take (e - b)) ∈ xs, ⟨[], _, _, rfl, by simp, fun x hx => by simp at hx, fun b e h => by omega⟩, ?_, ?_⟩
  · rintro i d ρ hd ⟨xs, a5, a6, rfl, hxl, hx, hm⟩
    obtain ⟨hi, rfl⟩ := up_get hd
    have hi : i ≤ os.length := by omega
    refine ⟨_, rfl, ?_⟩
    repeat sizeOf_list_dec
    rw [List.length_map]
    refine ⟨_, _, rfl, ⟨by omega, by omega, by omega, by omega⟩, ?_⟩
    have hl2 : (upI (0 + (i : Int)) ((os.length : Int) + 1 - (0 + (i : Int))).toNat).length = os.length + 1 - i := by unfold upI; rw [List.length_map, List.length_range]; omega
    refine ⟨fun k ρ => ∃ xs a6, ρ = [.sh (IT ps), .sh (IT os), .sh (.tuple [.int l, .int q, .int c]), .sh vD, .ow (.lst (xs.map PyData.int)), .sh (.int (0 + (i : Int))), a6] ∧ xs.length ≤ 500 * i + k ∧ (∀ x ∈ xs, npr l q (dv c vo) ps os ≤ x) ∧ (∀ b e, b < i → b ≤ e → e ≤ os.length → wy l q (dv c vo) ps ((os.drop b).take (e - b)) ∈ xs) ∧ ∀ e, i ≤ e → e < i + k → wy l q (dv c vo) ps ((os.drop i).take (e - i)) ∈ xs, ⟨xs, _, rfl, by omega, hx, hm, fun e h1 h2 => by omega⟩, ?_, ?_⟩
    · rintro k d ρ hd2 ⟨xs, a6, rfl, hxl, hx, hm, hm2⟩
      obtain ⟨hk, rfl⟩ := up_get hd2
      have ew := ways_val (l := l) (c := c) hv hq ps os 8 0 i (i + k) (by omega) (Nat.zero_le _) (by omega) (by omega) (by omega)
      rw [List.drop_zero] at ew
      have e1 : (0 : Int) + (i : Int) = ((i : Nat) : Int) := by omega
      have e2 : (0 : Int) + (i : Int) + (k : Int) = ((i + k : Nat) : Int) := by omega
      refine ⟨_, rfl, ?_⟩
      repeat sizeOf_list_dec
      rw [e2, e1]
      refine ⟨_, _, ew, ?_⟩
      repeat sizeOf_list_dec
      refine ⟨_, _, app1 (by rw [List.length_map]; omega), ?_⟩
      refine ⟨xs ++ [wy l q (dv c vo) ps ((os.drop i).take (i + k - i))], .sh (.int ((i + k : Nat) : Int)), ?_, by rw [List.length_append, List.length_singleton]; omega, ?_, ?_, ?_⟩
      · rw [List.map_append]; rfl
      · intro x hx'
        rcases List.mem_append.mp hx' with z | z
        · exact hx x z
        · rw [List.mem_singleton] at z
          subst z
          exact Int.le_trans (npr_le ps os hi) (cst_le_wy hq.1 ps (os.drop i) _)
      · exact fun b e h1 h2 h3 => List.mem_append_left _ (hm b e h1 h2 h3)
      · intro e h1 h2
        by_cases h : e < i + k
        · exact List.mem_append_left _ (hm2 e h1 h)
        · have : e = i + k := by omega
          subst this
          exact List.mem_append_right _ (List.mem_singleton.mpr rfl)
    · rintro ρ ⟨xs, a6, rfl, hxl, hx, hm, hm2⟩
      rw [hl2] at hxl hm2
      refine ⟨xs, _, _, rfl, by omega, hx, fun b e h1 h2 h3 => ?_⟩
      by_cases h : b < i
      · exact hm b e h h2 h3
      · have : b = i := by omega
        subst this
        exact hm2 e h2 (by omega)
  · rintro ρ ⟨xs, a5, a6, rfl, hxl, hx, hm⟩
    rw [hl1] at hm
    dsimp only
    obtain ⟨j, hj, ej⟩ := npr_is (l := l) (q := q) (d := dv c vo) ps os
    obtain ⟨e, he, hle⟩ := wy_le_cst (l := l) (q := q) (d := dv c vo) ps (os.drop j)
    rw [List.length_drop] at he
    have h1 := cst_le_wy (l := l) (q := q) (d := dv c vo) hq.1 ps (os.drop j) e
    have h2 := hm j (j + e) (by omega) (by omega) (by omega)
    have e3 : j + e - j = e := by omega
    rw [e3] at h2
    have hmem : npr l q (dv c vo) ps os ∈ xs := by
      have : wy l q (dv c vo) ps ((os.drop j).take e) = npr l q (dv c vo) ps os := by omega
      rw [← this]; exact h2
    iterate 3 sizeOf_list_dec
    refine wx_eq (d := .list (xs.map PyData.int)) rfl ?_
    repeat sizeOf_list_dec
    refine ⟨_, min_LT (List.ne_nil_of_mem hmem), ?_⟩
    rw [minL_eq hmem hx]
    exact ⟨rfl, rfl⟩
theorem show3 {ps os : List Int} {l q c : Int} (hp : ps.length ≤ 400) (ho : os.length ≤ 400) (pv : ∀ x ∈ ps, 0 ≤ x ∧ x ≤ 126) (ov : ∀ x ∈ os, 0 ≤ x ∧ x ≤ 127) (hl : 0 ≤ l ∧ l ≤ 9) (hq : 0 ≤ q ∧ q ≤ 9) (hc : 0 ≤ c ∧ c ≤ 9) :
    gRepr [.list [IT ps, IT os, .tuple [.int l, .int q, .int c]]] = some (.str (PyData.list [IT ps, IT os, .tuple [.int l, .int q, .int c]]).shown) := by
  have e1 : (.tuple [.int l, .int q, .int c] : D) = IT [l, q, c] := rfl
  rw [e1]
  have big : ∀ x : Int, 0 ≤ x ∧ x ≤ 127 → x.natAbs < 10 ^ 30 := fun x hx => Nat.lt_of_le_of_lt (by omega : x.natAbs ≤ 127) (by decide)
  have s1 := smL_ints (xs := ps) fun x hx => big x (by have := pv x hx; omega)
  have s2 := smL_ints (xs := os) fun x hx => big x (ov x hx)
  have s3 := smL_ints (xs := [l, q, c]) fun x hx => by
    simp only [List.mem_cons, List.not_mem_nil, or_false] at hx
    rcases hx with rfl | rfl | rfl <;> exact big _ (by omega)
  refine show_ok ?_ ?_ ?_
  · show (smL (ps.map PyData.int) && (smL (os.map PyData.int) && (smL ([l, q, c].map PyData.int) && true))) = true
    rw [s1, s2, s3]; rfl
  · show max (PyData.depthAll (ps.map PyData.int) + 1) (max (PyData.depthAll (os.map PyData.int) + 1) (max (PyData.depthAll ([l, q, c].map PyData.int) + 1) 0)) + 1 ≤ 60
    have := dpL_ints ps
    have := dpL_ints os
    have := dpL_ints [l, q, c]
    omega
  · show 4 + (4 + szL (ps.map PyData.int) + 2 + (4 + szL (os.map PyData.int) + 2 + (4 + szL ([l, q, c].map PyData.int) + 2 + 0))) ≤ 1000000
    rw [szL_ints, szL_ints, szL_ints]
    show 4 + (4 + 33 * ps.length + 2 + (4 + 33 * os.length + 2 + (4 + 33 * 3 + 2 + 0))) ≤ 1000000
    omega
theorem show_int {n : Int} (h : n.natAbs < 10 ^ 30) : gRepr [.int n] = some (.str (PyData.int n).shown) :=
  show_ok (decide_eq_true h) (by show 0 ≤ 60; omega) (by show 31 ≤ 1000000; omega)
theorem eqv_s (x : Str) : (PyData.str x).eqv (.str x) = true := by
  show (x == x) = true
  simp
theorem far_none {l q c x : Int} {ps os : List Int} (pv : ∀ x ∈ ps, 0 ≤ x ∧ x ≤ 126) (ov : ∀ x ∈ os, 0 ≤ x ∧ x ≤ 127) (hx : 127 < x ∨ x < -127) : npr l q (dv c (some x)) ps os = npr l q (dv c none) ps os :=
  npr_congr ps os (dv_none fun o ho p hp e => by have := pv p hp; have := ov o ho; omega)
theorem pow20 : gPow (.int 10) (.int 20) = some (.int (10 ^ (20 : Int).toNat)) := by
  unfold gPow
  dsimp only
  rw [if_pos ⟨by decide, by decide, by decide⟩]
theorem pow30 : gPow (.int 10) (.int 30) = some (.int (10 ^ (30 : Int).toNat)) := by
  unfold gPow
  dsimp only
  rw [if_pos ⟨by decide, by decide, by decide⟩]
theorem law_val (ns : List Int) : ∃ w, F_law [.scr ns] = some (.sh (.bool true), w) := by
  have key : ∃ sv w, F_law [.scr ns] = some (sv, w) ∧ sv = .sh (.bool true) := by
    obtain ⟨o0, w0, e0, hw0⟩ := well_ok ns
    refine run_of ?_
    unfold b_law
    repeat sizeOf_list_dec
    refine wx_fnS rfl e0 ?_
    repeat sizeOf_list_dec
    refine ⟨_, .inl rfl, fun i ρ => ∃ o a2 a3 a4 a5 a6 a7 a8 a9 a10 a11 a12, IsW o ∧ ρ = [.scr ns, .ow o, a2, a3, a4, a5, a6, a7, a8, a9, a10, a11, a12], ⟨o0, _, _, _, _, _, _, _, _, _, _, _, hw0, rfl⟩, ?_, ?_⟩
    · rintro i d ρ hd ⟨o, a2, a3, a4, a5, a6, a7, a8, a9, a10, a11, a12, hw, rfl⟩
      obtain ⟨rows, columns, rfl, hr1, hr2, hc2⟩ : ∃ r c : Nat, d = .tuple [.int r, .int c] ∧ 1 ≤ r ∧ r ≤ 4 ∧ c ≤ 5 := by
        have hd := List.mem_of_getElem? hd
        simp only [List.mem_cons, List.not_mem_nil, or_false] at hd
        rcases hd with rfl | rfl | rfl | rfl
        · exact ⟨2, 5, rfl, by decide, by decide, by decide⟩
        · exact ⟨3, 4, rfl, by decide, by decide, by decide⟩
        · exact ⟨4, 4, rfl, by decide, by decide, by decide⟩
        · exact ⟨3, 5, rfl, by decide, by decide, by decide⟩
      obtain ⟨ps, os, l, q, c, o2, e2, hw2, K⟩ := asked_ok (rows := rows) (columns := columns) hw hr1 (by omega) (by omega)
      have hpl : ps.length ≤ 4 := Nat.le_trans K.p2 hr2
      have hol : os.length ≤ 5 := Nat.le_trans K.o2 hc2
      have hpo : os.length * ps.length < 64 := Nat.lt_of_le_of_lt (Nat.mul_le_mul hol hpl) (by decide)
      have s3 := show3 (by omega) (by omega) K.pv K.ov K.hl K.hq K.hc
      have hnb : ∀ v, (npr l q (dv c v) ps os).natAbs < 10 ^ 30 := fun v => by
        have h1 := npr_nonneg K.hl.1 K.hq.1 (dv_nonneg K.hc.1 v) ps os
        have h2 := npr_le_all (q := q) (d := dv c v) K.hl.1 ps os
        have h3 : l * (ps.length : Int) ≤ 9 * 4 := Int.mul_le_mul K.hl.2 (by omega) (by omega) (by omega)
        exact Nat.lt_of_le_of_lt (by omega : (npr l q (dv c v) ps os).natAbs ≤ 36) (by decide)
      refine ⟨_, rfl, ?_⟩
      repeat sizeOf_list_dec
      refine wx_fnW rfl ?_
      repeat sizeOf_list_dec
      refine ⟨_, _, e2, ?_⟩
      repeat sizeOf_list_dec
      refine ⟨_, s3, ?_⟩
      repeat sizeOf_list_dec
      refine ⟨_, _, law_differences_val ps os hpo, ?_⟩
      repeat sizeOf_list_dec
      refine wx_fnW rfl ?_
      repeat sizeOf_list_dec
      have hdl : (difs ps os).length < 64 := by
        have h1 := len_uq (os.flatMap fun o => ps.map fun p => o - p)
        rw [len_fm] at h1
        have h2 : (difs ps os).length = (uq (os.flatMap fun o => ps.map fun p => o - p)).length := (isort_perm _).length_eq
        omega
      have eg : gAdd (.list ((difs ps os).map PyData.int)) (.list [.int 0, .int 0, .int 1, .int (-1), .int 200, .int (-10 ^ (20 : Int).toNat)]) = some (.list ((difs ps os ++ [0, 0, 1, -1, 200, -10 ^ (20 : Int).toNat]).map PyData.int)) := by
        rw [List.map_append]
        exact if_pos (by rw [List.length_map]; show (difs ps os).length + 6 ≤ 1000000; omega)
      refine ⟨_, eg, ?_⟩
      repeat sizeOf_list_dec
      obtain ⟨vD, o4, e4, hw4, hv⟩ := pick_ok (ds := (difs ps os ++ [0, 0, 1, -1, 200, -10 ^ (20 : Int).toNat]).map PyData.int) hw2 (by rw [List.length_map, List.length_append]; simp) (by rw [List.length_map, List.length_append]; show (difs ps os).length + 6 < _; omega)
      obtain ⟨v, _, rfl⟩ := List.mem_map.mp hv
      refine ⟨_, _, e4, ?_⟩
      repeat sizeOf_list_dec
      have hql : 0 ≤ q ∧ q < 2 ^ 64 := ⟨K.hq.1, Int.lt_of_le_of_lt K.hq.2 (by decide)⟩
      refine ⟨_, _, least_val (l := l) (c := c) (vo := some v) (.int v) hql ps os (by omega) (by omega), ?_⟩
      repeat sizeOf_list_dec
      refine ⟨_, _, near_price_val (l := l) (q := q) (c := c) (vo := some v) ps os (.int v) (by omega) (by omega), ?_⟩
      repeat sizeOf_list_dec
      have sn := show_int (hnb (some v))
      refine ⟨_, sn, ?_⟩
      repeat sizeOf_list_dec
      refine ⟨_, sn, ?_⟩
      repeat sizeOf_list_dec
      refine ⟨fun z => (by simp at z), fun _ => ?_⟩
      repeat sizeOf_list_dec
      refine ⟨rfl, _, _, near_price_val (l := l) (q := q) (c := c) (vo := some v) ps os (.int v) (by omega) (by omega), ?_⟩
      repeat sizeOf_list_dec
      refine ⟨_, sn, ?_⟩
      repeat sizeOf_list_dec
      refine ⟨_, sn, ?_⟩
      repeat sizeOf_list_dec
      refine ⟨fun z => (by simp at z), fun _ => ?_⟩
      repeat sizeOf_list_dec
      refine ⟨_, .inr rfl, by decide, fun i acc ρ => acc = List.replicate i (.int (npr l q (dv c none) ps os)) ∧ ρ = [.scr ns, .ow o4, .sh (.int rows), .sh (.int columns), .sh (IT ps), .sh (IT os), .sh (.tuple [.int l, .int q, .int c]), .sh (.str (PyData.list [IT ps, IT os, .tuple [.int l, .int q, .int c]]).shown), .sh (.list ((difs ps os).map PyData.int)), .sh (.int v), .sh (.int (npr l q (dv c (some v)) ps os)), a11, .un], ⟨rfl, rfl⟩, ?_, ?_⟩
      · rintro i d acc ρ hd ⟨rfl, rfl⟩
        obtain ⟨x, rfl, hx⟩ : ∃ x : Int, d = .int x ∧ (127 < x ∨ x < -127) := by
          have hd := List.mem_of_getElem? hd
          simp only [List.mem_cons, List.not_mem_nil, or_false] at hd
          rcases hd with rfl | rfl | rfl
          · exact ⟨_, rfl, .inl (by decide)⟩
          · exact ⟨_, rfl, .inr (by decide)⟩
          · exact ⟨_, rfl, .inl (by decide)⟩
        refine ⟨_, rfl, wx_eq (d := true) rfl ⟨fun _ => ?_, fun z => (by cases z)⟩⟩
        repeat sizeOf_list_dec
        refine ⟨_, _, near_price_val (l := l) (q := q) (c := c) (vo := some x) ps os (.int x) (by omega) (by omega), ?_⟩
        refine ⟨?_, rfl⟩
        rw [far_none K.pv K.ov hx, List.replicate_succ']
      rintro acc ρ ⟨rfl, rfl⟩
      dsimp only
      have sfar : gRepr [.list [.int (npr l q (dv c none) ps os), .int (npr l q (dv c none) ps os), .int (npr l q (dv c none) ps os)]] = some (.str (PyData.list [.int (npr l q (dv c none) ps os), .int (npr l q (dv c none) ps os), .int (npr l q (dv c none) ps os)]).shown) := by
        have s1 := smL_ints (xs := [npr l q (dv c none) ps os, npr l q (dv c none) ps os, npr l q (dv c none) ps os]) fun x hx => by
          simp only [List.mem_cons, List.not_mem_nil, or_false, or_self] at hx
          subst hx; exact hnb none
        refine show_ok s1 ?_ ?_
        · show 0 + 1 ≤ 60
          omega
        · show 4 + (31 + 2 + (31 + 2 + (31 + 2 + 0))) ≤ 1000000
          omega
      repeat sizeOf_list_dec
      refine ⟨_, sfar, ?_⟩
      repeat sizeOf_list_dec
      refine ⟨_, _, law_table_val (l := l) (q := q) (c := c) (vo := none) ps os .none (by omega) (by omega), ?_⟩
      repeat sizeOf_list_dec
      refine ⟨_, ix_tab (j := 0) rfl (Nat.zero_le _), ?_⟩
      repeat sizeOf_list_dec
      rw [List.drop_zero]
      refine ⟨_, min_IT (rowM_ne _ _), ?_⟩
      repeat sizeOf_list_dec
      refine ⟨_, sfar, ?_⟩
      repeat sizeOf_list_dec
      refine ⟨fun z => (by simp at z), fun _ => ?_⟩
      repeat sizeOf_list_dec
      refine ⟨_, s3, ?_⟩
      repeat sizeOf_list_dec
      refine ⟨fun z => (by simp at z), fun _ => ?_⟩
      repeat sizeOf_list_dec
      exact ⟨_, _, _, _, _, _, _, _, _, _, _, _, hw4, rfl⟩
    · rintro ρ ⟨o, a2, a3, a4, a5, a6, a7, a8, a9, a10, a11, a12, hw, rfl⟩
      dsimp only
      repeat sizeOf_list_dec
      rfl
  obtain ⟨sv, w, e, rfl⟩ := key
  exact ⟨w, e⟩
end K64

set_option Elab.async false
set_option linter.all false
set_option maxRecDepth 100000
set_option maxHeartbeats 4000000
/-! printed by genend.py: what the top has left, and the end -/
namespace K64
open PySem PySem.Spec PyProof.Rows L2 DL
theorem all_mk {P : Program} {w : World} {K : PySem.W.Frag} {h : Heap} {mg : Str → Option Value} {fa f_table_for f_near_price f_law_well f_law_draw f_law_pick f_law_ways f_law_table f_law_differences f_law_items f_law_prices f_law_asked f_law_least f_law : Addr} (X : K.In h) (G : h.Ns mainGlobals mg) (hfa : mg "law" = some (.ref fa))
    {od_table_for an_table_for : Option Addr} {sl_table_for : Array (Option Value)} {oc_table_for kV_table_for dc_table_for pm_table_for cd_table_for ct_table_for : Value}
    {od_near_price an_near_price : Option Addr} {sl_near_price : Array (Option Value)} {oc_near_price kV_near_price dc_near_price pm_near_price cd_near_price ct_near_price : Value}
    {od_law_well an_law_well : Option Addr} {sl_law_well : Array (Option Value)} {oc_law_well kV_law_well dc_law_well pm_law_well cd_law_well ct_law_well : Value}
    {od_law_draw an_law_draw : Option Addr} {sl_law_draw : Array (Option Value)} {oc_law_draw kV_law_draw dc_law_draw pm_law_draw cd_law_draw ct_law_draw : Value}
    {od_law_pick an_law_pick : Option Addr} {sl_law_pick : Array (Option Value)} {oc_law_pick kV_law_pick dc_law_pick pm_law_pick cd_law_pick ct_law_pick : Value}
    {od_law_ways an_law_ways : Option Addr} {sl_law_ways : Array (Option Value)} {oc_law_ways kV_law_ways dc_law_ways pm_law_ways cd_law_ways ct_law_ways : Value}
    {od_law_table an_law_table : Option Addr} {sl_law_table : Array (Option Value)} {oc_law_table kV_law_table dc_law_table pm_law_table cd_law_table ct_law_table : Value}
    {od_law_differences an_law_differences : Option Addr} {sl_law_differences : Array (Option Value)} {oc_law_differences kV_law_differences dc_law_differences pm_law_differences cd_law_differences ct_law_differences : Value}
    {od_law_items an_law_items : Option Addr} {sl_law_items : Array (Option Value)} {oc_law_items kV_law_items dc_law_items pm_law_items cd_law_items ct_law_items : Value}
    {od_law_prices an_law_prices : Option Addr} {sl_law_prices : Array (Option Value)} {oc_law_prices kV_law_prices dc_law_prices pm_law_prices cd_law_prices ct_law_prices : Value}
    {od_law_asked an_law_asked : Option Addr} {sl_law_asked : Array (Option Value)} {oc_law_asked kV_law_asked dc_law_asked pm_law_asked cd_law_asked ct_law_asked : Value}
    {od_law_least an_law_least : Option Addr} {sl_law_least : Array (Option Value)} {oc_law_least kV_law_least dc_law_least pm_law_least cd_law_least ct_law_least : Value}
    {od_law an_law : Option Addr} {sl_law : Array (Option Value)} {oc_law kV_law dc_law pm_law cd_law ct_law : Value}
    (a_table_for : PySem.W.nsIn K mainGlobals "table_for" = some (some (.ref f_table_for)))
    (l_table_for : K.lookup f_table_for = some ⟨oc_table_for, od_table_for, .func (PySem.W.fnOf "table_for" "table_for" (defArgs s_table_for) (defBody s_table_for) (defScope s_table_for) .none kV_table_for dc_table_for pm_table_for an_table_for cd_table_for ct_table_for), sl_table_for⟩)
    (c_table_for : PySem.W.codeIn K cd_table_for "table_for" = true) (k_table_for : PySem.W.keepIn K (.ref f_table_for) = true)
    (a_near_price : PySem.W.nsIn K mainGlobals "near_price" = some (some (.ref f_near_price)))
    (l_near_price : K.lookup f_near_price = some ⟨oc_near_price, od_near_price, .func (PySem.W.fnOf "near_price" "near_price" (defArgs s_near_price) (defBody s_near_price) (defScope s_near_price) .none kV_near_price dc_near_price pm_near_price an_near_price cd_near_price ct_near_price), sl_near_price⟩)
    (c_near_price : PySem.W.codeIn K cd_near_price "near_price" = true) (k_near_price : PySem.W.keepIn K (.ref f_near_price) = true)
    (a_law_well : PySem.W.nsIn K mainGlobals "_law_well" = some (some (.ref f_law_well)))
    (l_law_well : K.lookup f_law_well = some ⟨oc_law_well, od_law_well, .func (PySem.W.fnOf "_law_well" "_law_well" (defArgs s_law_well) (defBody s_law_well) (defScope s_law_well) .none kV_law_well dc_law_well pm_law_well an_law_well cd_law_well ct_law_well), sl_law_well⟩)
    (c_law_well : PySem.W.codeIn K cd_law_well "_law_well" = true) (k_law_well : PySem.W.keepIn K (.ref f_law_well) = true)
    (a_law_draw : PySem.W.nsIn K mainGlobals "_law_draw" = some (some (.ref f_law_draw)))
    (l_law_draw : K.lookup f_law_draw = some ⟨oc_law_draw, od_law_draw, .func (PySem.W.fnOf "_law_draw" "_law_draw" (defArgs s_law_draw) (defBody s_law_draw) (defScope s_law_draw) .none kV_law_draw dc_law_draw pm_law_draw an_law_draw cd_law_draw ct_law_draw), sl_law_draw⟩)
    (c_law_draw : PySem.W.codeIn K cd_law_draw "_law_draw" = true) (k_law_draw : PySem.W.keepIn K (.ref f_law_draw) = true)
    (a_law_pick : PySem.W.nsIn K mainGlobals "_law_pick" = some (some (.ref f_law_pick)))
    (l_law_pick : K.lookup f_law_pick = some ⟨oc_law_pick, od_law_pick, .func (PySem.W.fnOf "_law_pick" "_law_pick" (defArgs s_law_pick) (defBody s_law_pick) (defScope s_law_pick) .none kV_law_pick dc_law_pick pm_law_pick an_law_pick cd_law_pick ct_law_pick), sl_law_pick⟩)
    (c_law_pick : PySem.W.codeIn K cd_law_pick "_law_pick" = true) (k_law_pick : PySem.W.keepIn K (.ref f_law_pick) = true)
    (a_law_ways : PySem.W.nsIn K mainGlobals "_law_ways" = some (some (.ref f_law_ways)))
    (l_law_ways : K.lookup f_law_ways = some ⟨oc_law_ways, od_law_ways, .func (PySem.W.fnOf "_law_ways" "_law_ways" (defArgs s_law_ways) (defBody s_law_ways) (defScope s_law_ways) .none kV_law_ways dc_law_ways pm_law_ways an_law_ways cd_law_ways ct_law_ways), sl_law_ways⟩)
    (c_law_ways : PySem.W.codeIn K cd_law_ways "_law_ways" = true) (k_law_ways : PySem.W.keepIn K (.ref f_law_ways) = true)
    (a_law_table : PySem.W.nsIn K mainGlobals "_law_table" = some (some (.ref f_law_table)))
    (l_law_table : K.lookup f_law_table = some ⟨oc_law_table, od_law_table, .func (PySem.W.fnOf "_law_table" "_law_table" (defArgs s_law_table) (defBody s_law_table) (defScope s_law_table) .none kV_law_table dc_law_table pm_law_table an_law_table cd_law_table ct_law_table), sl_law_table⟩)
    (c_law_table : PySem.W.codeIn K cd_law_table "_law_table" = true) (k_law_table : PySem.W.keepIn K (.ref f_law_table) = true)
    (a_law_differences : PySem.W.nsIn K mainGlobals "_law_differences" = some (some (.ref f_law_differences)))
    (l_law_differences : K.lookup f_law_differences = some ⟨oc_law_differences, od_law_differences, .func (PySem.W.fnOf "_law_differences" "_law_differences" (defArgs s_law_differences) (defBody s_law_differences) (defScope s_law_differences) .none kV_law_differences dc_law_differences pm_law_differences an_law_differences cd_law_differences ct_law_differences), sl_law_differences⟩)
    (c_law_differences : PySem.W.codeIn K cd_law_differences "_law_differences" = true) (k_law_differences : PySem.W.keepIn K (.ref f_law_differences) = true)
    (a_law_items : PySem.W.nsIn K mainGlobals "_law_items" = some (some (.ref f_law_items)))
    (l_law_items : K.lookup f_law_items = some ⟨oc_law_items, od_law_items, .func (PySem.W.fnOf "_law_items" "_law_items" (defArgs s_law_items) (defBody s_law_items) (defScope s_law_items) .none kV_law_items dc_law_items pm_law_items an_law_items cd_law_items ct_law_items), sl_law_items⟩)
    (c_law_items : PySem.W.codeIn K cd_law_items "_law_items" = true) (k_law_items : PySem.W.keepIn K (.ref f_law_items) = true)
    (a_law_prices : PySem.W.nsIn K mainGlobals "_law_prices" = some (some (.ref f_law_prices)))
    (l_law_prices : K.lookup f_law_prices = some ⟨oc_law_prices, od_law_prices, .func (PySem.W.fnOf "_law_prices" "_law_prices" (defArgs s_law_prices) (defBody s_law_prices) (defScope s_law_prices) .none kV_law_prices dc_law_prices pm_law_prices an_law_prices cd_law_prices ct_law_prices), sl_law_prices⟩)
    (c_law_prices : PySem.W.codeIn K cd_law_prices "_law_prices" = true) (k_law_prices : PySem.W.keepIn K (.ref f_law_prices) = true)
    (a_law_asked : PySem.W.nsIn K mainGlobals "_law_asked" = some (some (.ref f_law_asked)))
    (l_law_asked : K.lookup f_law_asked = some ⟨oc_law_asked, od_law_asked, .func (PySem.W.fnOf "_law_asked" "_law_asked" (defArgs s_law_asked) (defBody s_law_asked) (defScope s_law_asked) .none kV_law_asked dc_law_asked pm_law_asked an_law_asked cd_law_asked ct_law_asked), sl_law_asked⟩)
    (c_law_asked : PySem.W.codeIn K cd_law_asked "_law_asked" = true) (k_law_asked : PySem.W.keepIn K (.ref f_law_asked) = true)
    (a_law_least : PySem.W.nsIn K mainGlobals "_law_least" = some (some (.ref f_law_least)))
    (l_law_least : K.lookup f_law_least = some ⟨oc_law_least, od_law_least, .func (PySem.W.fnOf "_law_least" "_law_least" (defArgs s_law_least) (defBody s_law_least) (defScope s_law_least) .none kV_law_least dc_law_least pm_law_least an_law_least cd_law_least ct_law_least), sl_law_least⟩)
    (c_law_least : PySem.W.codeIn K cd_law_least "_law_least" = true) (k_law_least : PySem.W.keepIn K (.ref f_law_least) = true)
    (a_law : PySem.W.nsIn K mainGlobals "law" = some (some (.ref f_law)))
    (l_law : K.lookup f_law = some ⟨oc_law, od_law, .func (PySem.W.fnOf "law" "law" (defArgs s_law) (defBody s_law) (defScope s_law) .none kV_law dc_law pm_law an_law cd_law ct_law), sl_law⟩)
    (c_law : PySem.W.codeIn K cd_law "law" = true) (k_law : PySem.W.keepIn K (.ref f_law) = true)
    (z_abs : PySem.W.nsIn K mainGlobals "abs" = some none)
    (z_int : PySem.W.nsIn K mainGlobals "int" = some none)
    (z_len : PySem.W.nsIn K mainGlobals "len" = some none)
    (z_max : PySem.W.nsIn K mainGlobals "max" = some none)
    (z_min : PySem.W.nsIn K mainGlobals "min" = some none)
    (z_range : PySem.W.nsIn K mainGlobals "range" = some none)
    (z_repr : PySem.W.nsIn K mainGlobals "repr" = some none)
    (z_sorted : PySem.W.nsIn K mainGlobals "sorted" = some none)
    (z_tuple : PySem.W.nsIn K mainGlobals "tuple" = some none)
    : ∃ fd : FuncData, (∀ (s : Shared) (v : Value), BindsTo s fd ⟨[v], []⟩ [("script", v)]) ∧ ∀ base : Heap, K.In base → base.Ns mainGlobals mg → FnD P w K mg base 11 fa fd ["script"] F_law := by
  have e := hfa.symm.trans (PySem.W.mg_of X G a_law)
  cases e
  have F_table_for := fun_mk (st := s_table_for) l_table_for c_table_for k_table_for
  have F_near_price := fun_mk (st := s_near_price) l_near_price c_near_price k_near_price
  have F_law_well := fun_mk (st := s_law_well) l_law_well c_law_well k_law_well
  have F_law_draw := fun_mk (st := s_law_draw) l_law_draw c_law_draw k_law_draw
  have F_law_pick := fun_mk (st := s_law_pick) l_law_pick c_law_pick k_law_pick
  have F_law_ways := fun_mk (st := s_law_ways) l_law_ways c_law_ways k_law_ways
  have F_law_table := fun_mk (st := s_law_table) l_law_table c_law_table k_law_table
  have F_law_differences := fun_mk (st := s_law_differences) l_law_differences c_law_differences k_law_differences
  have F_law_items := fun_mk (st := s_law_items) l_law_items c_law_items k_law_items
  have F_law_prices := fun_mk (st := s_law_prices) l_law_prices c_law_prices k_law_prices
  have F_law_asked := fun_mk (st := s_law_asked) l_law_asked c_law_asked k_law_asked
  have F_law_least := fun_mk (st := s_law_least) l_law_least c_law_least k_law_least
  have F_law := fun_mk (st := s_law) l_law c_law k_law
  have b_table_for := F_table_for.binds (ps := ["pitches", "others", "prices", "v"]) fun _ _ _ _ _ _ us hl => match us, hl with | [_, _, _, _], _ => rfl
  have b_near_price := F_near_price.binds (ps := ["pitches", "others", "prices", "v"]) fun _ _ _ _ _ _ us hl => match us, hl with | [_, _, _, _], _ => rfl
  have b_law_well := F_law_well.binds (ps := ["script"]) fun _ _ _ _ _ _ us hl => match us, hl with | [_], _ => rfl
  have b_law_draw := F_law_draw.binds (ps := ["well", "many"]) fun _ _ _ _ _ _ us hl => match us, hl with | [_, _], _ => rfl
  have b_law_pick := F_law_pick.binds (ps := ["well", "items"]) fun _ _ _ _ _ _ us hl => match us, hl with | [_, _], _ => rfl
  have b_law_ways := F_law_ways.binds (ps := ["pitches", "others", "prices", "v", "i", "j", "end"]) fun _ _ _ _ _ _ us hl => match us, hl with | [_, _, _, _, _, _, _], _ => rfl
  have b_law_table := F_law_table.binds (ps := ["pitches", "others", "prices", "v"]) fun _ _ _ _ _ _ us hl => match us, hl with | [_, _, _, _], _ => rfl
  have b_law_differences := F_law_differences.binds (ps := ["pitches", "others"]) fun _ _ _ _ _ _ us hl => match us, hl with | [_, _], _ => rfl
  have b_law_items := F_law_items.binds (ps := ["well", "many"]) fun _ _ _ _ _ _ us hl => match us, hl with | [_, _], _ => rfl
  have b_law_prices := F_law_prices.binds (ps := ["well"]) fun _ _ _ _ _ _ us hl => match us, hl with | [_], _ => rfl
  have b_law_asked := F_law_asked.binds (ps := ["well", "rows", "columns"]) fun _ _ _ _ _ _ us hl => match us, hl with | [_, _, _], _ => rfl
  have b_law_least := F_law_least.binds (ps := ["pitches", "others", "prices", "v"]) fun _ _ _ _ _ _ us hl => match us, hl with | [_, _, _, _], _ => rfl
  have b_law := F_law.binds (ps := ["script"]) fun _ _ _ _ _ _ us hl => match us, hl with | [_], _ => rfl
  have k0_near_price := kb_pick (K := K) (fd := PySem.W.fnOf "near_price" "near_price" (defArgs s_near_price) (defBody s_near_price) (defScope s_near_price) .none kV_near_price dc_near_price pm_near_price an_near_price cd_near_price ct_near_price) (ps := ["pitches", "others", "prices", "v"]) (ks := ["v", "prices", "others", "pitches"]) (is := [3, 2, 1, 0]) (fun s ws hl => match ws, hl with | _ :: _ :: _ :: _ :: _, _ => .of_eq rfl) (by decide)
  exact ⟨PySem.W.fnOf "law" "law" (defArgs s_law) (defBody s_law) (defScope s_law) .none kV_law dc_law pm_law an_law cd_law ct_law, fun s v => .of_eq rfl, fun base _ _ => ok_law {
    a_table_for := f_table_for, fd_table_for := _, F_table_for := F_table_for, g_table_for := PySem.W.mg_of X G a_table_for, b_table_for := b_table_for,
    a_near_price := f_near_price, fd_near_price := _, F_near_price := F_near_price, g_near_price := PySem.W.mg_of X G a_near_price, b_near_price := b_near_price,
    a_law_well := f_law_well, fd_law_well := _, F_law_well := F_law_well, g_law_well := PySem.W.mg_of X G a_law_well, b_law_well := b_law_well,
    a_law_draw := f_law_draw, fd_law_draw := _, F_law_draw := F_law_draw, g_law_draw := PySem.W.mg_of X G a_law_draw, b_law_draw := b_law_draw,
    a_law_pick := f_law_pick, fd_law_pick := _, F_law_pick := F_law_pick, g_law_pick := PySem.W.mg_of X G a_law_pick, b_law_pick := b_law_pick,
    a_law_ways := f_law_ways, fd_law_ways := _, F_law_ways := F_law_ways, g_law_ways := PySem.W.mg_of X G a_law_ways, b_law_ways := b_law_ways,
    a_law_table := f_law_table, fd_law_table := _, F_law_table := F_law_table, g_law_table := PySem.W.mg_of X G a_law_table, b_law_table := b_law_table,
    a_law_differences := f_law_differences, fd_law_differences := _, F_law_differences := F_law_differences, g_law_differences := PySem.W.mg_of X G a_law_differences, b_law_differences := b_law_differences,
    a_law_items := f_law_items, fd_law_items := _, F_law_items := F_law_items, g_law_items := PySem.W.mg_of X G a_law_items, b_law_items := b_law_items,
    a_law_prices := f_law_prices, fd_law_prices := _, F_law_prices := F_law_prices, g_law_prices := PySem.W.mg_of X G a_law_prices, b_law_prices := b_law_prices,
    a_law_asked := f_law_asked, fd_law_asked := _, F_law_asked := F_law_asked, g_law_asked := PySem.W.mg_of X G a_law_asked, b_law_asked := b_law_asked,
    a_law_least := f_law_least, fd_law_least := _, F_law_least := F_law_least, g_law_least := PySem.W.mg_of X G a_law_least, b_law_least := b_law_least,
    a_law := fa, fd_law := _, F_law := F_law, g_law := PySem.W.mg_of X G a_law, b_law := b_law,
    k0_near_price := k0_near_price,
    m_abs := PySem.W.mg_none_of X G z_abs, m_int := PySem.W.mg_none_of X G z_int, m_len := PySem.W.mg_none_of X G z_len, m_max := PySem.W.mg_none_of X G z_max, m_min := PySem.W.mg_none_of X G z_min, m_range := PySem.W.mg_none_of X G z_range, m_repr := PySem.W.mg_none_of X G z_repr, m_sorted := PySem.W.mg_none_of X G z_sorted, m_tuple := PySem.W.mg_none_of X G z_tuple }⟩
theorem law_sp {K : PySem.W.Frag} {H : Hp} {a : Addr} {ns : List Int} (hO : Only H) (hS : SqL K H a (ns.map V.int)) (hl : ns.length ≤ 63) : spD 1 K F_law [.ref a] H (fun v _ => v = .bl true) fun _ _ _ => False := by
  obtain ⟨w, e⟩ := law_val ns
  refine ⟨0, H, H, [.scr ns], .sh (.bool true), w, rfl, scr_rl hS, e, fun v H' S' _ R => ?_⟩
  obtain ⟨v', e', r⟩ := R.get_sh (k := 0) rfl
  cases e'
  cases r
  rfl
end K64
open PySem PySem.W PyProof.Rows
set_option maxHeartbeats 0 in
theorem PySem.Challenge.cw_heardagain_k64_prices_of_all_near_ways_holds : PySem.Challenge.rw_heardagain_k64_prices_of_all_near_ways.Holds := by
  w_on; o_law; k_head; (case hw => w_witness2)
  k_fill
  refine DL.walk_ofG (l := PySem.Challenge.rw_heardagain_k64_prices_of_all_near_ways) (n := 63) (k := 11) (x := "script") (CX := fun _ => L2.CX0) (sp := fun w => DL.spD 1 _ K64.F_law) rfl (by decide) rfl ⟨rfl, by decide, by decide⟩ (fun w h Y => PySem.W.kIn_of Y) ?F (fun _ _ a ns hl hO hS => K64.law_sp hO hS hl) (fun _ _ _ _ _ h => h)
  case F =>
    intro w mg fa h KX G hmg
    refine' K64.all_mk KX G hmg ?a_table_for ?l_table_for ?c_table_for ?k_table_for ?a_near_price ?l_near_price ?c_near_price ?k_near_price ?a_law_well ?l_law_well ?c_law_well ?k_law_well ?a_law_draw ?l_law_draw ?c_law_draw ?k_law_draw ?a_law_pick ?l_law_pick ?c_law_pick ?k_law_pick ?a_law_ways ?l_law_ways ?c_law_ways ?k_law_ways ?a_law_table ?l_law_table ?c_law_table ?k_law_table ?a_law_differences ?l_law_differences ?c_law_differences ?k_law_differences ?a_law_items ?l_law_items ?c_law_items ?k_law_items ?a_law_prices ?l_law_prices ?c_law_prices ?k_law_prices ?a_law_asked ?l_law_asked ?c_law_asked ?k_law_asked ?a_law_least ?l_law_least ?c_law_least ?k_law_least ?a_law ?l_law ?c_law ?k_law ?z_abs ?z_int ?z_len ?z_max ?z_min ?z_range ?z_repr ?z_sorted ?z_tuple
    (case a_table_for => k_is); (case l_table_for => k_is); (case c_table_for => k_is); (case k_table_for => k_is); (case a_near_price => k_is); (case l_near_price => k_is); (case c_near_price => k_is); (case k_near_price => k_is)
    (case a_law_well => k_is); (case l_law_well => k_is); (case c_law_well => k_is); (case k_law_well => k_is); (case a_law_draw => k_is); (case l_law_draw => k_is); (case c_law_draw => k_is); (case k_law_draw => k_is)
    (case a_law_pick => k_is); (case l_law_pick => k_is); (case c_law_pick => k_is); (case k_law_pick => k_is); (case a_law_ways => k_is); (case l_law_ways => k_is); (case c_law_ways => k_is); (case k_law_ways => k_is)
    (case a_law_table => k_is); (case l_law_table => k_is); (case c_law_table => k_is); (case k_law_table => k_is); (case a_law_differences => k_is); (case l_law_differences => k_is); (case c_law_differences => k_is); (case k_law_differences => k_is)
    (case a_law_items => k_is); (case l_law_items => k_is); (case c_law_items => k_is); (case k_law_items => k_is); (case a_law_prices => k_is); (case l_law_prices => k_is); (case c_law_prices => k_is); (case k_law_prices => k_is)
    (case a_law_asked => k_is); (case l_law_asked => k_is); (case c_law_asked => k_is); (case k_law_asked => k_is); (case a_law_least => k_is); (case l_law_least => k_is); (case c_law_least => k_is); (case k_law_least => k_is)
    (case a_law => k_is); (case l_law => k_is); (case c_law => k_is); (case k_law => k_is); (case z_abs => k_is); (case z_int => k_is); (case z_len => k_is); (case z_max => k_is)
    (case z_min => k_is); (case z_range => k_is); (case z_repr => k_is); (case z_sorted => k_is); (case z_tuple => k_is)

