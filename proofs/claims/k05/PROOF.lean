import PyProof.Rows.All
import Wide.All
import OpenK.AllK
import Wide.FinOn
import HandS.ForMost
import HandS.TupAny
import HandS.TupMul
import HandS.Deep
import HandS.Wide
import HandS.Conv
import HandS.IsInst
import HandS.Style
import HandS.Steps
import KE.GoesMore
import KE.GoesEnum
import HandS.Zip
import HandS.Rev
import KE.GoesZip
import HandS.Text
import HandS.Replace
import HandS.Strs
import KE.SortData
import HandS.SortOrd
import HandS.Dict
import HandS.DictComp
import PyProof.Rows.SetFrom
import HandS.Defaults
import HandS.Ends
import HandS.HeadEnd
import HandS.HeadHook1
import HandS.HeadHook2
import HandS.Head0
import HandS.Head1
import HandS.Head2
import PySem.Challenge.RW_truepeals_k05_what_a_bell_does_in_a_meth
set_option Elab.async false
set_option linter.all false
set_option maxRecDepth 100000
set_option maxHeartbeats 4000000
/-! VT: tuples whose own object is known (it has no dict of its own, so that its methods may be called) -/
namespace VI
open PySem PySem.Spec L2
open PyProof.Rows hiding St

/-- a new tuple, its object known -/
def NewT (us : List V) (H : Hp) (Q : VK) : Prop := ∀ p o, H p = none → o.dict = none → Q (.ref p) (upd H p (.frz o (.tup us)))
variable {X : Cx}
theorem ep_tup {pins : List (Addr × Obj)} {σ : St} {H : Hp} {s : Shared} {Q : VK} {us : List V} {its : List Value} {t' : Nat} (I : Inv X pins σ H s) (r : Vals us its) (hz : us.length ≤ sizeLine) (q : NewT us H Q) :
    EP X pins σ Q (.ref s.heap.objs.size) { s with heap := s.heap.push { cls := .type "tuple", data := .seq its.toArray }, toks := t' } :=
  ⟨.ref s.heap.objs.size, _, I.laid (t' := t') (o := .frz { cls := .type "tuple", data := .seq its.toArray } (.tup us)) (fun _ _ e => Heap.get?_push_of_some _ e) (Nat.le_refl _) ⟨Heap.get?_push_size _ rfl, hz, its, r, IsTup.new _ _⟩, rfl, q _ _ I.fresh rfl⟩

def tTupF (t : TA) : TE := fun σ H Q => t σ H fun xs H1 => xs.length ≤ sizeLine ∧ NewT xs H1 Q
theorem pe_tupF {es : List Expr} {t : TA} {pos : Pos} {x1} (h : PA X es t) : PE X (.Tuple es x1 pos) (tTupF t) := by
  refine ⟨fun pins s σ H Q I hq => ?_⟩
  refine wpAny_Tuple_spliced (thn (h.run pos pins s σ H _ I hq) fun us s1 ⟨xs, H1, I1, r, z, q⟩ => ⟨by rw [← r.length]; exact z, ?_⟩)
  exact ep_tup (t' := s1.toks) I1 r z q

def rTupleF (K : PySem.W.Frag) : List V → Hp → VK → Prop := fun xs H Q => ∃ p ys, xs = [.ref p] ∧ ((SqL K H p ys ∧ NewT ys H Q) ∨ (SqT K H p ys ∧ Q (.ref p) H))
theorem cr_tupleF : CallR X (.type "tuple") (rTupleF X.K) := by
  intro pins s σ H xs us Q I r h
  obtain ⟨p, ys, rfl, h⟩ := h
  obtain rfl := Vals.ref1 r
  rcases h with ⟨hs, q⟩ | ⟨hs, q⟩
  · obtain ⟨its, rv, pl, hz⟩ := I.list hs
    refine call_tuple_list pl.isList (fun h' hk => ?_) (by rw [List.size_toArray, ← rv.length]; exact hz)
    exact ep_tup (t' := s.toks) (s := { s with heap := h' }) (I.kept (t' := s.toks) hk) rv hz q
  · obtain ⟨its, rv, pl, hz⟩ := I.tuple hs
    exact call_tuple_tup pl ⟨.ref p, H, I, rfl, q⟩

def rCatF (K : PySem.W.Frag) : R2 := fun x y H Q => ∃ a b xs ys, x = .ref a ∧ y = .ref b ∧ SqT K H a xs ∧ SqT K H b ys ∧ xs.length + ys.length ≤ sizeLine ∧
  (xs = [] → Q (.ref b) H) ∧ (xs ≠ [] → ys = [] → Q (.ref a) H) ∧ (xs ≠ [] → ys ≠ [] → NewT (xs ++ ys) H Q)
theorem op_catF : OpR X (binaryOp .Add) (rCatF X.K) := by
  intro pins s σ H x y v u Q I rx ry h
  obtain ⟨a, b, xs, ys, rfl, rfl, ha, hb, hz, q0, q1, q2⟩ := h
  cases rx
  cases ry
  obtain ⟨its, r1, p1, _⟩ := I.tuple ha
  obtain ⟨its2, r2, p2, _⟩ := I.tuple hb
  have n1 := r1.length
  have n2 := r2.length
  by_cases hx : xs = []
  · subst hx
    cases r1
    exact cat_tup0 p1 p2 ⟨.ref b, H, I, rfl, q0 rfl⟩
  · have nx : its ≠ [] := fun e => hx (List.eq_nil_of_length_eq_zero (by rw [n1, e]; rfl))
    refine HT.cat_tup p1 p2 nx (fun e => ?_) (fun e => ?_) (by omega)
    · exact ⟨.ref a, H, I, rfl, q1 hx (List.eq_nil_of_length_eq_zero (by rw [n2, e]; rfl))⟩
    · refine ep_tup (t' := s.toks) I (r1.append r2) (by rw [List.length_append]; exact hz) (q2 hx fun z => e ?_)
      subst z; cases r2; rfl

def rSlF (K : PySem.W.Frag) : V → Option Int → Option Int → Hp → VK → Prop := fun x lo hi H Q => ∃ a xs, x = .ref a ∧ SqT K H a xs ∧
  (HT.sIx xs.length 0 lo = 0 ∧ HT.sIx xs.length xs.length hi = xs.length → Q (.ref a) H) ∧ (¬ (HT.sIx xs.length 0 lo = 0 ∧ HT.sIx xs.length xs.length hi = xs.length) → NewT (cutV xs lo hi) H Q)
theorem sl_tupF : SlR X (rSlF X.K) := by
  intro pins s σ H x v vl vu lo hi sl Q I rx hs pl pu h
  obtain ⟨a, xs, rfl, hx, q1, q2⟩ := h
  cases rx
  obtain ⟨its, r, ht, hz⟩ := I.tuple hx
  have hlen : its.toArray.size = xs.length := by rw [List.size_toArray]; exact r.length.symm
  refine ⟨"tuple", _, PyProof.Rows.slot_tuple_getitem.lookup, ht.typeIs, ?_⟩
  by_cases hw : HT.sIx xs.length 0 lo = 0 ∧ HT.sIx xs.length xs.length hi = xs.length
  · exact getItem_tuple_whole ht hs pl pu (by rw [hlen]; exact hw) ⟨.ref a, H, I, rfl, q1 hw⟩
  · refine HT.getItem_tuple_cut ht hs pl pu (by rw [hlen]; exact hw) ?_ (by rw [hlen]; exact hz)
    rw [hlen]
    exact ep_tup (t' := s.toks) I ((r.drop (HT.sIx xs.length 0 lo)).take (HT.sIx xs.length xs.length hi - HT.sIx xs.length 0 lo)) (Nat.le_trans (cutV_length xs lo hi) hz) (q2 hw)

/-! ### t * k -/
theorem tuple_mul_self (l : Addr) (items : Array Value) (n : Nat) (dd : Option Addr) (sl : Array (Option Value)) (x : Int) (u : Tok) (c0 : (decide (x < -(2 ^ 63)) || decide (x ≥ 2 ^ 63)) = false) (c1 : (items.isEmpty || x == 1) = true) :
    Meets (Builtin.«tuple.__mul__» ⟨[.ref l, .int x u], []⟩) (fun _ R s => s.heap.get? l = some { cls := .type "tuple", dict := dd, data := .seq items n, slots := sl } ∧
      R (.ok (.ret (Value.ref l))) s) :=
  .of_wp fun prog w A R s h => by
    obtain ⟨hp, g, d, tk, os⟩ := s
    obtain ⟨hl, h⟩ := h
    have f1 := AutoSeq1.idx_int
    wp_walk using wpAny_loadPart' hl
    repeat (first
      | (refine wpAny_ite_false (decide_eq_false (by rw [c0]; exact Bool.false_ne_true)) ?_; wp_walk using wpAny_loadPart' hl)
      | (refine wpAny_ite_true (decide_eq_true (by rw [c1])) ?_; wp_walk using wpAny_loadPart' hl))
    exact ⟨_, rfl, h⟩
theorem tuple_mul_none (l : Addr) (items : Array Value) (n : Nat) (dd : Option Addr) (sl : Array (Option Value)) (x : Int) (u : Tok) (c0 : (decide (x < -(2 ^ 63)) || decide (x ≥ 2 ^ 63)) = false) (c1 : (items.isEmpty || x == 1) = false) (c2 : (decide (x ≤ 0) || items.isEmpty) = true) :
    Meets (Builtin.«tuple.__mul__» ⟨[.ref l, .int x u], []⟩) (fun _ R s => s.heap.get? l = some { cls := .type "tuple", dict := dd, data := .seq items n, slots := sl } ∧
      R (.ok (.ret (Value.ref s.heap.objs.size))) { s with heap := s.heap.push { cls := Value.type "tuple", data := Data.seq #[] }, toks := s.toks }) :=
  .of_wp fun prog w A R s h => by
    obtain ⟨hp, g, d, tk, os⟩ := s
    obtain ⟨hl, h⟩ := h
    have f1 := AutoSeq1.idx_int
    wp_walk using wpAny_loadPart' hl
    repeat (first
      | (refine wpAny_ite_false (decide_eq_false (by rw [c0]; exact Bool.false_ne_true)) ?_; wp_walk using wpAny_loadPart' hl)
      | (refine wpAny_ite_false (decide_eq_false (by rw [c1]; exact Bool.false_ne_true)) ?_; wp_walk using wpAny_loadPart' hl)
      | (refine wpAny_ite_true (decide_eq_true (by rw [c2])) ?_; wp_walk using wpAny_loadPart' hl))
    exact ⟨_, rfl, h⟩
def rRepF (K : PySem.W.Frag) : R2 := fun x y H Q => ∃ l k xs, x = .ref l ∧ y = .int k ∧ SqT K H l xs ∧ -(2 ^ 63) ≤ k ∧ k < 2 ^ 63 ∧ xs.length * k.toNat ≤ sizeLine ∧
  ((xs = [] ∨ k = 1) → Q (.ref l) H) ∧ (¬ (xs = [] ∨ k = 1) → NewT (List.replicate k.toNat xs).flatten H Q)
theorem op_repF : OpR X (binaryOp .Mult) (rRepF X.K) := by
  intro pins s σ H x y v u Q I rx ry h
  obtain ⟨l, k, xs, rfl, rfl, hT, h1, h2, hz, q1, q2⟩ := h
  cases rx
  obtain ⟨t, rfl⟩ := ry
  obtain ⟨its, r, ⟨⟨cls, dd, data, sl⟩, ho, hc, n, hd⟩, hs⟩ := I.tuple hT
  simp only at hc hd
  subst hc hd
  have hle : its.length = xs.length := r.length.symm
  have hsz0 : its.toArray.size = xs.length := by rw [List.size_toArray, hle]
  have c0 : (decide (k < -(2 ^ 63)) || decide (k ≥ 2 ^ 63)) = false := by
    rw [decide_eq_false (by omega), decide_eq_false (by omega)] <;> rfl
  by_cases hone : xs = [] ∨ k = 1
  · have c1 : (its.toArray.isEmpty || k == 1) = true := by
      rcases hone with e | e
      · subst e; cases r; rfl
      · subst e; simp
    refine wpAny_binaryOp_repeat_ref (T := "tuple") (U := "int") (by decide) ⟨_, ho, rfl⟩ (fun s' => typeIs_int s' k t) noFill_tuple_mul F.fills_int_mul F.slot_int_rmul repeat_tuple F.slot_int_index.lookup
      (call_meets F.slot_int_rmul (typeIs_int s k t) F.entry_int_rmul (F.args_int_rmul_2 _ _) (int_rmul_tuple k t l its.toArray n dd sl)
        ⟨ho, rfl, ⟨_, ho, rfl⟩, call_meets F.slot_tuple_mul ⟨_, ho, rfl⟩ F.entry_tuple_mul (F.args_tuple_mul_2 _ _) (tuple_mul_self l its.toArray n dd sl k t c0 c1) ⟨ho, ?_⟩⟩)
    exact ⟨.ref l, H, I, rfl, q1 hone⟩
  · have q2 := q2 hone
    have hx : xs ≠ [] := fun e => hone (.inl e)
    have hk : k ≠ 1 := fun e => hone (.inr e)
    have hn : its ≠ [] := fun e => hx (List.eq_nil_of_length_eq_zero (by rw [← hle, e]; rfl))
    have hi : its.toArray.isEmpty = false := by
      cases its with
      | nil => exact absurd rfl hn
      | cons a b => rfl
    have c1 : (its.toArray.isEmpty || k == 1) = false := by
      rw [hi, Bool.false_or]
      exact beq_eq_false_iff_ne.mpr hk
    by_cases h0 : k ≤ 0
    · have c2 : (decide (k ≤ 0) || its.toArray.isEmpty) = true := by rw [decide_eq_true h0]; rfl
      refine wpAny_binaryOp_repeat_ref (T := "tuple") (U := "int") (by decide) ⟨_, ho, rfl⟩ (fun s' => typeIs_int s' k t) noFill_tuple_mul F.fills_int_mul F.slot_int_rmul repeat_tuple F.slot_int_index.lookup
        (call_meets F.slot_int_rmul (typeIs_int s k t) F.entry_int_rmul (F.args_int_rmul_2 _ _) (int_rmul_tuple k t l its.toArray n dd sl)
          ⟨ho, rfl, ⟨_, ho, rfl⟩, call_meets F.slot_tuple_mul ⟨_, ho, rfl⟩ F.entry_tuple_mul (F.args_tuple_mul_2 _ _) (tuple_mul_none l its.toArray n dd sl k t c0 c1 c2) ⟨ho, ?_⟩⟩)
      have e : k.toNat = 0 := by omega
      rw [e] at q2
      exact ep_tup (t' := s.toks) (us := []) (its := []) I .nil (Nat.zero_le _) q2
    · have hm : ((its.toArray.size : Nat) : Int) * k ≤ 16777216 := by
        rw [hsz0]
        have e : ((xs.length * k.toNat : Nat) : Int) = (xs.length : Int) * k := by
          rw [Int.natCast_mul, Int.toNat_of_nonneg (by omega)]
        rw [← e]
        have := sizeLine_eq
        omega
      have flen : (List.replicate k.toNat its).flatten.length ≤ sizeLine := by
        rw [PyProof.Rows.lm_len_rep_flat, hle, Nat.mul_comm]
        exact hz
      have c2 : (decide (k ≤ 0) || its.toArray.isEmpty) = false := by
        rw [hi, Bool.or_false]
        exact decide_eq_false h0
      have c4 : Builtin.Tuple.tupleTooMany (((its.toArray.size : Nat) : Int) * k) = false := by
        unfold Builtin.Tuple.tupleTooMany
        rw [sizeLine_eq]
        exact decide_eq_false (by omega)
      refine wpAny_binaryOp_repeat_ref (T := "tuple") (U := "int") (by decide) ⟨_, ho, rfl⟩ (fun s' => typeIs_int s' k t) noFill_tuple_mul F.fills_int_mul F.slot_int_rmul repeat_tuple F.slot_int_index.lookup
        (call_meets F.slot_int_rmul (typeIs_int s k t) F.entry_int_rmul (F.args_int_rmul_2 _ _) (int_rmul_tuple k t l its.toArray n dd sl)
          ⟨ho, rfl, ⟨_, ho, rfl⟩, call_meets F.slot_tuple_mul ⟨_, ho, rfl⟩ F.entry_tuple_mul (F.args_tuple_mul_2 _ _) (tuple_mulW l its.toArray n dd sl k t c0 c1 c2 (by omega) c4 (by rw [size_rep, List.size_toArray]; exact flen)) ⟨ho, ?_⟩⟩)
      rw [size_rep]
      exact ep_tup (t' := s.toks) I (r.rep k.toNat) (by rw [PyProof.Rows.lm_len_rep_flat, Nat.mul_comm]; exact hz) q2
end VI

set_option Elab.async false
set_option linter.all false
set_option maxRecDepth 100000
set_option maxHeartbeats 4000000
/-! VA: data, cells, the relation of an environment of data to slots and heap -/
namespace VI
open PySem PySem.Spec L2
open PyProof.Rows hiding St

/-- data: what a value is worth, with all that it holds -/
inductive D where
  | non | bl (b : Bool) | int (i : Int) | str (x : Str)
  | lst (xs : List D) | tup (xs : List D)
  | dct (ks : List Key) (xs : List D) | dctT (ks : List (List Key)) (xs : List D)
  | scr (ns : List Int)
  | fn (x : Str)
  | rng (a b c : Int) (n : Nat) | ty (n : String)

/-- a cell: frozen data, or a list or dict that this frame alone may change -/
inductive T where
  | lf (d : D) | lst (xs : List D) | dct (ks : List Key) (xs : List D) | dctT (ks : List (List Key)) (xs : List D)

@[reducible] def T.strip : T → D
  | .lf d => d
  | .lst xs => .lst xs
  | .dct ks xs => .dct ks xs
  | .dctT ks xs => .dctT ks xs
def T.own : T → Bool
  | .lf _ => false
  | _ => true

abbrev En := List (Option T)

/-! ### what is frozen -/
def isDct : HO → Bool
  | .dK _ => true
  | .dT _ => true
  | _ => false
/-- F is part of H; a dict may be locked there -/
def Sub (F H : Hp) : Prop := ∀ a u, F a = some u → H a = some u ∨ (isDct u = true ∧ ∃ o, H a = some (.frz o u))
def Le (F G : Hp) : Prop := ∀ a u, F a = some u → G a = some u
theorem Le.refl (F : Hp) : Le F F := fun _ _ h => h
theorem Le.trans {F G H : Hp} (a : Le F G) (b : Le G H) : Le F H := fun c u h => b c u (a c u h)
theorem Sub.le {F G H : Hp} (a : Le F G) (b : Sub G H) : Sub F H := fun c u h => b c u (a c u h)
theorem Sub.rd {F H : Hp} (s : Sub F H) {a : Addr} {u : HO} (h : Rd F a u) : Rd H a u := by
  rcases h with h | ⟨o, h⟩
  · rcases s a u h with q | ⟨_, o, q⟩
    · exact .inl q
    · exact .inr ⟨o, q⟩
  · rcases s a _ h with q | ⟨z, _⟩
    · exact .inr ⟨o, q⟩
    · cases z
theorem Sub.lst {F H : Hp} (s : Sub F H) {a : Addr} {us : List V} (h : F a = some (.lst us)) : H a = some (.lst us) := by
  rcases s a _ h with q | ⟨z, _⟩
  · exact q
  · cases z
theorem Sub.tup {F H : Hp} (s : Sub F H) {a : Addr} {us : List V} {o : Obj} (h : F a = some (.frz o (.tup us))) : H a = some (.frz o (.tup us)) := by
  rcases s a _ h with q | ⟨z, _⟩
  · exact q
  · cases z
theorem Sub.rdT {F H : Hp} (s : Sub F H) {a : Addr} {us : List V} {o : Obj} (h : F a = some (.frz o (.tup us))) (K : PySem.W.Frag) : SqT K H a us := .inl (.inr ⟨o, s.tup h⟩)
theorem Sub.ext {F H : Hp} (s : Sub F H) {a : Addr} {φ : Heap → Prop} (h : F a = some (.ext φ)) : H a = some (.ext φ) := by
  rcases s a _ h with q | ⟨z, _⟩
  · exact q
  · cases z
theorem Sub.no {F H : Hp} (s : Sub F H) {a : Addr} (h : H a = none) : F a = none := by
  cases e : F a with
  | none => rfl
  | some u =>
    rcases s a u e with q | ⟨_, o, q⟩ <;> rw [h] at q <;> cases q
theorem Le.rd {F G : Hp} (s : Le F G) {a : Addr} {u : HO} (h : Rd F a u) : Rd G a u := by
  rcases h with h | ⟨o, h⟩
  · exact .inl (s _ _ h)
  · exact .inr ⟨o, s _ _ h⟩
theorem Le.sqT {K : PySem.W.Frag} {F G : Hp} (s : Le F G) {a : Addr} {us : List V} (h : SqT K F a us) : SqT K G a us := h.imp s.rd id
theorem Le.sqL {K : PySem.W.Frag} {F G : Hp} (s : Le F G) {a : Addr} {us : List V} (h : SqL K F a us) : SqL K G a us := h.imp s.rd id
theorem Sub.sqT {K : PySem.W.Frag} {F G : Hp} (s : Sub F G) {a : Addr} {us : List V} (h : SqT K F a us) : SqT K G a us := h.imp s.rd id
theorem Sub.sqL {K : PySem.W.Frag} {F G : Hp} (s : Sub F G) {a : Addr} {us : List V} (h : SqL K F a us) : SqL K G a us := h.imp s.rd id

/-- a range object -/
def rgO (p : Addr) (a b c : Int) : HO := .ext fun h => ∃ t u v, IsRange h p a b c t u v
/-- the written part and the module's names -/
structure Gx where
  K : PySem.W.Frag
  mg : Str → Option Value

mutual
def RepD (G : Gx) (F : Hp) : D → V → Prop
  | .non, v => v = .non
  | .bl b, v => v = .bl b
  | .int i, v => v = .int i
  | .str x, v => v = .str x
  | .lst ds, v => ∃ a us, v = .ref a ∧ F a = some (.lst us) ∧ RepDs G F ds us
  | .tup ds, v => ∃ a us o, v = .ref a ∧ F a = some (.frz o (.tup us)) ∧ o.dict = none ∧ RepDs G F ds us
  | .dct ks ds, v => ∃ a us, v = .ref a ∧ F a = some (.dK (ks.zip us)) ∧ ks.length = us.length ∧ RepDs G F ds us
  | .dctT ks ds, v => ∃ a us, v = .ref a ∧ F a = some (.dT (ks.zip us)) ∧ ks.length = us.length ∧ RepDs G F ds us
  | .scr ns, v => ∃ a, v = .ref a ∧ SqL G.K F a (ns.map V.int)
  | .fn x, v => ∃ a, v = .ref a ∧ G.mg x = some (.ref a)
  | .rng a b c n, v => ∃ p, v = .ref p ∧ F p = some (rgO p a b c) ∧ RgC a b c n
  | .ty n, v => v = .ty n
def RepDs (G : Gx) (F : Hp) : List D → List V → Prop
  | [], us => us = []
  | d :: ds, us => ∃ u r, us = u :: r ∧ RepD G F d u ∧ RepDs G F ds r
end

section
variable {G : Gx} {F F' H H' : Hp}
mutual
theorem RepD.le (s : Le F F') : ∀ {d : D} {v : V}, RepD G F d v → RepD G F' d v
  | .non, _, h => h
  | .bl _, _, h => h
  | .int _, _, h => h
  | .str _, _, h => h
  | .lst ds, _, ⟨a, us, e, h, r⟩ => ⟨a, us, e, s _ _ h, RepDs.le s r⟩
  | .tup ds, _, ⟨a, us, o, e, h, z, r⟩ => ⟨a, us, o, e, s _ _ h, z, RepDs.le s r⟩
  | .dct ks ds, _, ⟨a, us, e, h, l, r⟩ => ⟨a, us, e, s _ _ h, l, RepDs.le s r⟩
  | .dctT ks ds, _, ⟨a, us, e, h, l, r⟩ => ⟨a, us, e, s _ _ h, l, RepDs.le s r⟩
  | .scr ns, _, ⟨a, e, h⟩ => ⟨a, e, s.sqL h⟩
  | .fn x, _, h => h
  | .rng a b c n, _, ⟨p, e, h, r⟩ => ⟨p, e, s _ _ h, r⟩
  | .ty n, _, h => h
theorem RepDs.le (s : Le F F') : ∀ {ds : List D} {vs : List V}, RepDs G F ds vs → RepDs G F' ds vs
  | [], _, h => h
  | d :: ds, _, ⟨u, r, e, h, t⟩ => ⟨u, r, e, RepD.le s h, RepDs.le s t⟩
end
theorem RepDs.length : ∀ {ds : List D} {vs : List V}, RepDs G F ds vs → ds.length = vs.length
  | [], _, h => by cases h; rfl
  | d :: ds, _, ⟨u, r, e, _, t⟩ => by subst e; simp [RepDs.length t]
theorem RepDs.get : ∀ {ds : List D} {vs : List V}, RepDs G F ds vs → ∀ {i : Nat} {d : D}, ds[i]? = some d → ∃ v, vs[i]? = some v ∧ RepD G F d v
  | [], _, _, _, _, e => by simp at e
  | d :: ds, _, ⟨u, r, e, h, t⟩, 0, _, q => by subst e; simp at q; subst q; exact ⟨u, by simp, h⟩
  | d :: ds, _, ⟨u, r, e, h, t⟩, i + 1, x, q => by subst e; simpa using RepDs.get t (by simpa using q)
theorem RepDs.getV : ∀ {ds : List D} {vs : List V}, RepDs G F ds vs → ∀ {i : Nat} {v : V}, vs[i]? = some v → ∃ d, ds[i]? = some d ∧ RepD G F d v
  | [], _, h, _, _, e => by cases h; simp at e
  | d :: ds, _, ⟨u, r, e, h, t⟩, 0, _, q => by subst e; simp at q; subst q; exact ⟨d, by simp, h⟩
  | d :: ds, _, ⟨u, r, e, h, t⟩, i + 1, x, q => by subst e; simpa using RepDs.getV t (by simpa using q)
theorem RepDs.append : ∀ {ds es : List D} {vs us : List V}, RepDs G F ds vs → RepDs G F es us → RepDs G F (ds ++ es) (vs ++ us)
  | [], _, _, _, h, k => by cases h; exact k
  | d :: ds, _, _, _, ⟨u, r, e, h, t⟩, k => by subst e; exact ⟨u, r ++ _, rfl, h, RepDs.append t k⟩
theorem RepDs.one {d : D} {v : V} (h : RepD G F d v) : RepDs G F [d] [v] := ⟨v, [], rfl, h, rfl⟩
theorem RepDs.take : ∀ {ds : List D} {vs : List V} (n : Nat), RepDs G F ds vs → RepDs G F (ds.take n) (vs.take n)
  | _, _, 0, _ => rfl
  | [], _, n + 1, h => by cases h; rfl
  | d :: ds, _, n + 1, ⟨u, r, e, h, t⟩ => by subst e; exact ⟨u, _, rfl, h, RepDs.take n t⟩
theorem RepDs.drop : ∀ {ds : List D} {vs : List V} (n : Nat), RepDs G F ds vs → RepDs G F (ds.drop n) (vs.drop n)
  | _, _, 0, h => h
  | [], _, n + 1, h => by cases h; rfl
  | d :: ds, _, n + 1, ⟨u, r, e, h, t⟩ => by subst e; exact RepDs.drop n t
theorem RepDs.set : ∀ {ds : List D} {vs : List V} (n : Nat) {d : D} {v : V}, RepDs G F ds vs → RepD G F d v → RepDs G F (ds.set n d) (vs.set n v)
  | [], _, n, _, _, h, _ => by cases h; cases n <;> rfl
  | d :: ds, _, 0, _, _, ⟨u, r, e, h, t⟩, k => by subst e; exact ⟨_, _, rfl, k, t⟩
  | d :: ds, _, n + 1, _, _, ⟨u, r, e, h, t⟩, k => by subst e; exact ⟨_, _, rfl, h, RepDs.set n t k⟩
theorem RepDs.reverse {ds : List D} {vs : List V} (h : RepDs G F ds vs) : RepDs G F ds.reverse vs.reverse := by
  induction ds generalizing vs with
  | nil => cases h; rfl
  | cons d ds ih =>
    obtain ⟨u, r, e, h, t⟩ := h
    subst e
    simp only [List.reverse_cons]
    exact (ih t).append (RepDs.one h)
theorem RepDs.erase : ∀ {ds : List D} {vs : List V} (n : Nat), RepDs G F ds vs → RepDs G F (ds.eraseIdx n) (vs.eraseIdx n)
  | [], _, n, h => by cases h; cases n <;> rfl
  | d :: ds, _, 0, ⟨u, r, e, h, t⟩ => by subst e; exact t
  | d :: ds, _, n + 1, ⟨u, r, e, h, t⟩ => by subst e; exact ⟨_, _, rfl, h, RepDs.erase n t⟩
theorem RepDs.dropLast : ∀ {ds : List D} {vs : List V}, RepDs G F ds vs → RepDs G F ds.dropLast vs.dropLast
  | [], _, h => by cases h; rfl
  | [d], _, ⟨u, r, e, h, t⟩ => by cases t; subst e; rfl
  | d :: d' :: ds, _, ⟨u, r, e, h, t⟩ => by
    obtain ⟨u', r', e', h', t'⟩ := t
    subst e'; subst e
    exact ⟨u, _, rfl, h, RepDs.dropLast (ds := d' :: ds) (vs := u' :: r') ⟨u', r', rfl, h', t'⟩⟩
theorem RepDs.ints : ∀ {ns : List Int}, RepDs G F (ns.map D.int) (ns.map V.int)
  | [] => rfl
  | n :: ns => ⟨_, _, rfl, rfl, RepDs.ints⟩
theorem RepDs.ints_inv : ∀ {ns : List Int} {vs : List V}, RepDs G F (ns.map D.int) vs → vs = ns.map V.int
  | [], _, h => h
  | n :: ns, _, ⟨u, r, e, h, t⟩ => by subst e; rw [RepDs.ints_inv t]; cases h; rfl
theorem RepDs.strs_inv : ∀ {ns : List Str} {vs : List V}, RepDs G F (ns.map D.str) vs → vs = ns.map V.str
  | [], _, h => h
  | n :: ns, _, ⟨u, r, e, h, t⟩ => by subst e; rw [RepDs.strs_inv t]; cases h; rfl
theorem RepDs.bls_inv : ∀ {ns : List Bool} {vs : List V}, RepDs G F (ns.map D.bl) vs → vs = ns.map V.bl
  | [], _, h => h
  | n :: ns, _, ⟨u, r, e, h, t⟩ => by subst e; rw [RepDs.bls_inv t]; cases h; rfl

/-! ### cells -/
def RepT (G : Gx) (F H : Hp) : T → V → Prop
  | .lf d, v => RepD G F d v
  | .lst ds, v => ∃ a us, v = .ref a ∧ H a = some (.lst us) ∧ F a = none ∧ RepDs G F ds us
  | .dct ks ds, v => ∃ a us, v = .ref a ∧ H a = some (.dK (ks.zip us)) ∧ F a = none ∧ ks.length = us.length ∧ RepDs G F ds us
  | .dctT ks ds, v => ∃ a us, v = .ref a ∧ H a = some (.dT (ks.zip us)) ∧ F a = none ∧ ks.length = us.length ∧ RepDs G F ds us

theorem RepT.at_ {t : T} {v : V} (h : RepT G F H t v) (o : t.own = true) : ∃ a u, v = .ref a ∧ H a = some u ∧ F a = none ∧ (∀ F1 H1, Le F F1 → H1 a = some u → F1 a = none → RepT G F1 H1 t v) ∧
    RepD G (upd F a u) t.strip v := by
  have le : ∀ {a u}, F a = none → Le F (upd F a u) := fun {a u} q b w e => by
    rw [upd_ne (ne_of_none e q)]; exact e
  cases t with
  | lf d => cases o
  | lst ds =>
    obtain ⟨a, us, e, h1, h2, r⟩ := h
    exact ⟨a, _, e, h1, h2, fun F1 H1 l q z => ⟨a, us, e, q, z, r.le l⟩, a, us, e, upd_same, r.le (le h2)⟩
  | dct ks ds =>
    obtain ⟨a, us, e, h1, h2, l, r⟩ := h
    exact ⟨a, _, e, h1, h2, fun F1 H1 l' q z => ⟨a, us, e, q, z, l, r.le l'⟩, a, us, e, upd_same, l, r.le (le h2)⟩
  | dctT ks ds =>
    obtain ⟨a, us, e, h1, h2, l, r⟩ := h
    exact ⟨a, _, e, h1, h2, fun F1 H1 l' q z => ⟨a, us, e, q, z, l, r.le l'⟩, a, us, e, upd_same, l, r.le (le h2)⟩
/-- the cell is kept where its own object stands still -/
theorem RepT.go {t : T} {v : V} (h : RepT G F H t v) (l : Le F F') (k : ∀ a, t.own = true → v = .ref a → H' a = H a ∧ F' a = none) : RepT G F' H' t v := by
  cases o : t.own with
  | false =>
    cases t with
    | lf d => exact RepD.le l h
    | _ => cases o
  | true =>
    obtain ⟨a, u, e, h1, h2, f, _⟩ := h.at_ o
    obtain ⟨k1, k2⟩ := k a o e
    exact f F' H' l (k1.trans h1) k2

/-- the slots' own objects -/
def Own (ρ : En) (σ : St) (a : Addr) : Prop := ∃ (i : Nat) (t : T), ρ[i]? = some (some t) ∧ t.own = true ∧ σ[i]? = some (some (V.ref a))
structure Rel (G : Gx) (F H : Hp) (ρ : En) (σ : St) : Prop where
  len : ρ.length = σ.length
  sub : Sub F H
  rep : ∀ (i : Nat) (t : T), ρ[i]? = some (some t) → ∃ v, σ[i]? = some (some v) ∧ RepT G F H t v
  sep : ∀ (i j : Nat) (t u : T) (a : Addr), i ≠ j → ρ[i]? = some (some t) → t.own = true → σ[i]? = some (some (V.ref a)) → ρ[j]? = some (some u) → u.own = true → σ[j]? = some (some (V.ref a)) → False

structure Stp (O : Addr → Prop) (F H : Hp) (O' : Addr → Prop) (F' H' : Hp) : Prop where
  le : Le F F'
  fr : ∀ a u, H a = some u → ¬ O a → H' a = some u
  ow : ∀ a, O' a → O a ∨ H a = none
  fz : ∀ a, F' a ≠ none → F a ≠ none ∨ O a ∨ H a = none
variable {O O' O1 O2 : Addr → Prop} {F1 F2 H1 H2 : Hp}
theorem Stp.refl : Stp O F H O F H := ⟨Le.refl _, fun _ _ h _ => h, fun _ h => .inl h, fun _ h => .inl h⟩
theorem Stp.trans (a : Stp O F H O1 F1 H1) (b : Stp O1 F1 H1 O2 F2 H2) : Stp O F H O2 F2 H2 := by
  have dn : ∀ c, H1 c = none → O c ∨ H c = none := fun c e => by
    by_cases ho : O c
    · exact .inl ho
    · cases q : H c with
      | none => exact .inr rfl
      | some u => rw [a.fr c u q ho] at e; cases e
  refine ⟨a.le.trans b.le, fun c u h n => ?_, fun c h => ?_, fun c h => ?_⟩
  · refine b.fr c u (a.fr c u h n) fun o1 => ?_
    rcases a.ow c o1 with z | z
    · exact n z
    · rw [h] at z; cases z
  · rcases b.ow c h with z | z
    · exact a.ow c z
    · exact dn c z
  · rcases b.fz c h with z | z | z
    · exact a.fz c z
    · exact .inr (a.ow c z)
    · exact .inr (dn c z)
theorem Rel.own_at {ρ : En} {σ : St} (R : Rel G F H ρ σ) {a : Addr} (h : Own ρ σ a) : (∃ u, H a = some u) ∧ F a = none := by
  obtain ⟨i, t, e, o, s⟩ := h
  obtain ⟨v, e2, r⟩ := R.rep i t e
  obtain ⟨b, u, e3, h1, h2, _⟩ := r.at_ o
  rw [s] at e2; cases e2; cases e3
  exact ⟨⟨u, h1⟩, h2⟩
/-- the environment is kept where its own objects stand still -/
theorem Rel.go {ρ : En} {σ : St} (R : Rel G F H ρ σ) (l : Le F F') (s : Sub F' H') (k : ∀ a, Own ρ σ a → H' a = H a ∧ F' a = none) : Rel G F' H' ρ σ := by
  refine ⟨R.len, s, fun i t e => ?_, R.sep⟩
  obtain ⟨v, e2, r⟩ := R.rep i t e
  exact ⟨v, e2, r.go l fun a o e3 => k a ⟨i, t, e, o, by rw [e2, e3]⟩⟩
theorem upd_le {p : Addr} {o : HO} (h : H p = none) : Le H (upd H p o) := fun b w e => by
  rw [upd_ne (ne_of_none e h)]; exact e
theorem Sub.new {p : Addr} {o : HO} (s : Sub F H) (h : H p = none) : Sub F (upd H p o) := fun b w e => by
  have ne : b ≠ p := fun z => by subst z; rw [s.no h] at e; cases e
  rw [upd_ne ne]; exact s b w e
theorem Sub.fz {p : Addr} {o : HO} (s : Sub F H) (h : H p = some o) : Sub (upd F p o) H := fun b w e => by
  by_cases hb : b = p
  · subst hb; rw [upd_same] at e; cases e; exact .inl h
  · rw [upd_ne hb] at e; exact s b w e
/-- a new object, not frozen -/
theorem Rel.new {ρ : En} {σ : St} (R : Rel G F H ρ σ) {p : Addr} {o : HO} (h : H p = none) : Rel G F (upd H p o) ρ σ :=
  R.go (Le.refl _) (R.sub.new h) fun a q => by
    obtain ⟨⟨u, e⟩, f⟩ := R.own_at q
    exact ⟨upd_ne (ne_of_none e h), f⟩
theorem Stp.new {p : Addr} {o : HO} (h : H p = none) : Stp O F H O F (upd H p o) :=
  ⟨Le.refl _, fun a u e _ => upd_le h a u e, fun _ z => .inl z, fun _ z => .inl z⟩
/-- an object is frozen -/
theorem Rel.fz {ρ : En} {σ : St} (R : Rel G F H ρ σ) {p : Addr} {o : HO} (h : H p = some o) (hf : F p = none) (n : ¬ Own ρ σ p) : Rel G (upd F p o) H ρ σ :=
  R.go (upd_le hf) (R.sub.fz h) fun a q => ⟨rfl, by
    have ne : a ≠ p := fun z => n (z ▸ q)
    rw [upd_ne ne]; exact (R.own_at q).2⟩
theorem Stp.fzn {p : Addr} {o : HO} (hf : F p = none) (hp : O p ∨ H p = none) : Stp O F H O (upd F p o) H :=
  ⟨upd_le hf, fun _ _ h _ => h, fun _ z => .inl z, fun a z => by
    by_cases e : a = p
    · subst e; exact .inr hp
    · rw [upd_ne e] at z; exact .inl z⟩
end
end VI

set_option Elab.async false
set_option linter.all false
set_option maxRecDepth 100000
set_option maxHeartbeats 4000000
/-! VB: judgements over data, operators by values -/
namespace VI
open PySem PySem.Spec L2
open PyProof.Rows hiding St

abbrev gx (X : Cx) : Gx := ⟨X.K, X.mg⟩

/-- a value is made, the slots' own objects aside -/
structure PV (G : Gx) (F H : Hp) (t : T) (v : V) (F' H' : Hp) : Prop where
  le : Le F F'
  sub : Sub F' H'
  fr : ∀ a u, H a = some u → H' a = some u
  fz : ∀ a, F' a ≠ none → F a ≠ none ∨ H a = none
  rep : RepT G F' H' t v
  new : ∀ a, t.own = true → v = .ref a → H a = none
section
variable {G : Gx} {F H F' H' : Hp} {t : T} {v : V}
theorem PV.same {d : D} (s : Sub F H) (r : RepD G F d v) : PV G F H (.lf d) v F H := ⟨Le.refl _, s, fun _ _ h => h, fun _ h => .inl h, r, fun _ o => nomatch o⟩
theorem PV.tup {ds : List D} {us : List V} {p : Addr} {o : Obj} (s : Sub F H) (r : RepDs G F ds us) (h : H p = none) (ho : o.dict = none) : PV G F H (.lf (.tup ds)) (.ref p) (upd F p (.frz o (.tup us))) (upd H p (.frz o (.tup us))) := by
  have hf := s.no h
  refine ⟨upd_le hf, (s.new h).fz upd_same, upd_le h, fun a z => ?_, ⟨p, us, o, rfl, upd_same, ho, r.le (upd_le hf)⟩, fun _ o => nomatch o⟩
  by_cases e : a = p
  · subst e; exact .inr h
  · rw [upd_ne e] at z; exact .inl z
theorem PV.newT {ds : List D} {us : List V} {Q : VK} (s : Sub F H) (r : RepDs G F ds us) (q : ∀ v F' H', PV G F H (.lf (.tup ds)) v F' H' → Q v H') : NewT us H Q := fun p o hp ho => q _ _ _ (PV.tup s r hp ho)
theorem PV.lst {ds : List D} {us : List V} {p : Addr} (s : Sub F H) (r : RepDs G F ds us) (h : H p = none) : PV G F H (.lst ds) (.ref p) F (upd H p (.lst us)) :=
  ⟨Le.refl _, s.new h, upd_le h, fun _ z => .inl z, ⟨p, us, rfl, upd_same, s.no h, r⟩, fun a _ e => by cases e; exact h⟩
end

structure PoE (G : Gx) (F H : Hp) (ρ : En) (σ : St) (t : T) (v : V) (F' H' : Hp) (ρ' : En) : Prop where
  st : Stp (Own ρ σ) F H (Own ρ' σ) F' H'
  rel : Rel G F' H' ρ' σ
  rep : RepT G F' H' t v
  new : ∀ a, t.own = true → v = .ref a → ¬ Own ρ' σ a ∧ (Own ρ σ a ∨ H a = none)
structure PoD (G : Gx) (F H : Hp) (ρ : En) (σ : St) (d : D) (v : V) (F' H' : Hp) (ρ' : En) : Prop where
  st : Stp (Own ρ σ) F H (Own ρ' σ) F' H'
  rel : Rel G F' H' ρ' σ
  rep : RepD G F' d v
/-- no value, but a step -/
structure PoN (G : Gx) (F H : Hp) (ρ : En) (σ : St) (F' H' : Hp) (ρ' : En) : Prop where
  st : Stp (Own ρ σ) F H (Own ρ' σ) F' H'
  rel : Rel G F' H' ρ' σ
structure PoA (G : Gx) (F H : Hp) (ρ : En) (σ : St) (ds : List D) (vs : List V) (F' H' : Hp) (ρ' : En) : Prop where
  st : Stp (Own ρ σ) F H (Own ρ' σ) F' H'
  rel : Rel G F' H' ρ' σ
  rep : RepDs G F' ds vs

section
variable {G : Gx} {F H F' H' F1 H1 : Hp} {ρ ρ1 ρ' : En} {σ : St} {t : T} {v : V} {d : D}
theorem PoE.settle (p : PoE G F H ρ σ t v F' H' ρ') : ∃ F2, PoD G F H ρ σ t.strip v F2 H' ρ' := by
  cases o : t.own with
  | false =>
    cases t with
    | lf d => exact ⟨F', p.st, p.rel, p.rep⟩
    | _ => cases o
  | true =>
    obtain ⟨a, u, e, h1, h2, _, r⟩ := p.rep.at_ o
    obtain ⟨n1, n2⟩ := p.new a o e
    refine ⟨upd F' a u, ⟨?_, ?_, ?_, ?_⟩, p.rel.fz h1 h2 n1, r⟩
    · exact p.st.le.trans (upd_le h2)
    · exact p.st.fr
    · exact p.st.ow
    · intro b z
      by_cases hb : b = a
      · subst hb; exact .inr n2
      · rw [upd_ne hb] at z; exact p.st.fz b z
theorem PoD.toE (p : PoD G F H ρ σ d v F' H' ρ') : PoE G F H ρ σ (.lf d) v F' H' ρ' := ⟨p.st, p.rel, p.rep, fun _ o => nomatch o⟩
/-- an operation by values, in an environment -/
theorem PV.poE (p : PV G F H t v F' H') (R : Rel G F H ρ σ) : PoE G F H ρ σ t v F' H' ρ := by
  refine ⟨⟨p.le, fun a u h _ => p.fr a u h, fun _ h => .inl h, fun a z => ?_⟩, R.go p.le p.sub fun a q => ?_, p.rep, fun a o e => ?_⟩
  · exact (p.fz a z).imp_right .inr
  · obtain ⟨⟨u, e⟩, f⟩ := R.own_at q
    refine ⟨(p.fr a u e).trans e.symm, ?_⟩
    cases z : F' a with
    | none => rfl
    | some w =>
      rcases p.fz a (by rw [z]; simp) with z | z
      · exact absurd f z
      · rw [e] at z; cases z
  · have hn := p.new a o e
    refine ⟨fun q => ?_, .inr hn⟩
    obtain ⟨⟨u, e⟩, f⟩ := R.own_at q
    rw [hn] at e; cases e
theorem PoD.trE (a : PoD G F H ρ σ d v F1 H1 ρ1) {t : T} {v' : V} (b : PoE G F1 H1 ρ1 σ t v' F' H' ρ') : PoE G F H ρ σ t v' F' H' ρ' := by
  refine ⟨a.st.trans b.st, b.rel, b.rep, fun x o e => ?_⟩
  obtain ⟨n1, n2⟩ := b.new x o e
  refine ⟨n1, ?_⟩
  rcases n2 with q | q
  · exact a.st.ow x q
  · by_cases ho : Own ρ σ x
    · exact .inl ho
    · cases z : H x with
      | none => exact .inr rfl
      | some w => rw [a.st.fr x w z ho] at q; cases q
theorem PoN.trE (a : PoN G F H ρ σ F1 H1 ρ1) {t : T} {v' : V} (b : PoE G F1 H1 ρ1 σ t v' F' H' ρ') : PoE G F H ρ σ t v' F' H' ρ' :=
  PoD.trE (d := .non) (v := .non) ⟨a.st, a.rel, rfl⟩ b
theorem PoD.n (a : PoD G F H ρ σ d v F1 H1 ρ1) : PoN G F H ρ σ F1 H1 ρ1 := ⟨a.st, a.rel⟩
theorem PoE.n (a : PoE G F H ρ σ t v F1 H1 ρ1) : PoN G F H ρ σ F1 H1 ρ1 := ⟨a.st, a.rel⟩
theorem PoA.n {ds : List D} {vs : List V} (a : PoA G F H ρ σ ds vs F1 H1 ρ1) : PoN G F H ρ σ F1 H1 ρ1 := ⟨a.st, a.rel⟩
theorem PoN.refl (R : Rel G F H ρ σ) : PoN G F H ρ σ F H ρ := ⟨Stp.refl, R⟩
theorem PoN.tr (a : PoN G F H ρ σ F1 H1 ρ1) (b : PoN G F1 H1 ρ1 σ F' H' ρ') : PoN G F H ρ σ F' H' ρ' := ⟨a.st.trans b.st, b.rel⟩
theorem PoN.trD (a : PoN G F H ρ σ F1 H1 ρ1) (b : PoD G F1 H1 ρ1 σ d v F' H' ρ') : PoD G F H ρ σ d v F' H' ρ' := ⟨a.st.trans b.st, b.rel, b.rep⟩
theorem PoN.trA {ds : List D} {vs : List V} (a : PoN G F H ρ σ F1 H1 ρ1) (b : PoA G F1 H1 ρ1 σ ds vs F' H' ρ') : PoA G F H ρ σ ds vs F' H' ρ' := ⟨a.st.trans b.st, b.rel, b.rep⟩
end

/-! ### judgements -/
abbrev Den := En → Option (T × En)
abbrev DenD := En → Option (D × En)
abbrev DenB := En → Option (Bool × En)
abbrev DenA := En → Option (List D × En)
def SE (X : Cx) (e : Expr) (m : Den) : Prop := ∃ te, PE X e te ∧ ∀ (F H : Hp) (ρ : En) (σ : St) (t : T) (ρ' : En) (Q : VK), Rel (gx X) F H ρ σ → m ρ = some (t, ρ') →
  (∀ v F' H', PoE (gx X) F H ρ σ t v F' H' ρ' → Q v H') → te σ H Q
def SD (X : Cx) (e : Expr) (m : DenD) : Prop := ∃ te, PE X e te ∧ ∀ (F H : Hp) (ρ : En) (σ : St) (d : D) (ρ' : En) (Q : VK), Rel (gx X) F H ρ σ → m ρ = some (d, ρ') →
  (∀ v F' H', PoD (gx X) F H ρ σ d v F' H' ρ' → Q v H') → te σ H Q
def ST (X : Cx) (e : Expr) (m : DenB) : Prop := ∃ te, PT X e te ∧ ∀ (F H : Hp) (ρ : En) (σ : St) (b : Bool) (ρ' : En) (Q : Bool → Hp → Prop), Rel (gx X) F H ρ σ → m ρ = some (b, ρ') →
  (∀ F' H', PoN (gx X) F H ρ σ F' H' ρ' → Q b H') → te σ H Q
def SA (X : Cx) (es : List Expr) (m : DenA) : Prop := ∃ te, PA X es te ∧ ∀ (F H : Hp) (ρ : En) (σ : St) (ds : List D) (ρ' : En) (Q : List V → Hp → Prop), Rel (gx X) F H ρ σ → m ρ = some (ds, ρ') →
  (∀ vs F' H', PoA (gx X) F H ρ σ ds vs F' H' ρ' → Q vs H') → te σ H Q

def dD (m : Den) : DenD := fun ρ => (m ρ).bind fun p => some (p.1.strip, p.2)
def dL (m : DenD) : Den := fun ρ => (m ρ).bind fun p => some (.lf p.1, p.2)
theorem bind_some {α β : Type} {x : Option α} {f : α → Option β} {b : β} (h : x.bind f = some b) : ∃ a, x = some a ∧ f a = some b := by
  cases x with
  | none => cases h
  | some a => exact ⟨a, rfl, h⟩
variable {X : Cx} {a b e : Expr} {es : List Expr} {pos : Pos}
theorem SE.d {m : Den} (h : SE X e m) : SD X e (dD m) := by
  obtain ⟨te, p, h⟩ := h
  refine ⟨te, p, fun F H ρ σ d ρ' Q R e q => ?_⟩
  obtain ⟨⟨t, ρ1⟩, e1, e2⟩ := bind_some e
  cases e2
  refine h F H ρ σ t _ Q R e1 fun v F' H' po => ?_
  obtain ⟨F2, po⟩ := po.settle
  exact q v F2 H' po
theorem SD.toE {m : DenD} (h : SD X e m) : SE X e (dL m) := by
  obtain ⟨te, p, h⟩ := h
  refine ⟨te, p, fun F H ρ σ t ρ' Q R e q => ?_⟩
  obtain ⟨⟨d, ρ1⟩, e1, e2⟩ := bind_some e
  cases e2
  exact h F H ρ σ d _ Q R e1 fun v F' H' po => q v F' H' po.toE

/-! ### constants and names -/
def dC (d : D) : Den := fun ρ => some (.lf d, ρ)
theorem sd_const {te : TE} {d : D} (p : PE X e te) (h : ∀ σ H Q, (∀ v, (∀ F, RepD (gx X) F d v) → Q v H) → te σ H Q) : SE X e (dC d) := by
  refine ⟨te, p, fun F H ρ σ t ρ' Q R e q => ?_⟩
  cases e
  exact h σ H Q fun v r => q v F H ((PV.same R.sub (r F)).poE R)
theorem se_int {i : Int} {j : Nat} : SE X (.Constant (.int i) j pos) (dC (.int i)) := sd_const pe_int fun _ _ _ h => h _ fun _ => rfl
theorem se_bl {i : Bool} {j : Nat} : SE X (.Constant (.bool i) j pos) (dC (.bl i)) := sd_const pe_bl fun _ _ _ h => h _ fun _ => rfl
theorem se_non {j : Nat} : SE X (.Constant .none j pos) (dC .non) := sd_const pe_non fun _ _ _ h => h _ fun _ => rfl
theorem se_str {i : Str} {j : Nat} : SE X (.Constant (.str i) j pos) (dC (.str i)) := sd_const pe_str fun _ _ _ h => h _ fun _ => rfl
theorem se_glob {x : Str} {d : D} {v : V} {u : Value} (hg : Gl X x) (hm : X.mg x = some u) (r : RelV v u) (hd : (x == ("__debug__" : Str)) = false) (rd : ∀ F, RepD (gx X) F d v) : SE X (.Name x pos) (dC d) :=
  sd_const (pe_glob hg hm r hd) fun _ _ _ h => h _ rd

/-- a name whose list or dict is its own hands it out: from there on it is frozen -/
def dVar (i : Nat) : Den := fun ρ => match ρ[i]? with
  | some (some (.lf d)) => some (.lf d, ρ)
  | some (some t) => some (.lf t.strip, ρ.set i (some (.lf t.strip)))
  | _ => none
theorem len_set {ρ : En} {i : Nat} {x : Option T} : (ρ.set i x).length = ρ.length := List.length_set
theorem own_set_lf {ρ : En} {σ : St} {i : Nat} {d : D} {a : Addr} (h : Own (ρ.set i (some (.lf d))) σ a) : Own ρ σ a ∧ ∀ v, σ[i]? = some (some v) → True := by
  obtain ⟨j, t, e, o, s⟩ := h
  by_cases hj : j = i
  · subst hj
    have hl : j < ρ.length := by
      have := (List.getElem?_eq_some_iff.mp e).1
      simpa using this
    rw [List.getElem?_set_self hl] at e
    cases e; cases o
  · rw [List.getElem?_set_ne (Ne.symm hj)] at e
    exact ⟨⟨j, t, e, o, s⟩, fun _ _ => trivial⟩
theorem se_var {i : Nat} {x : Str} (hN : X.N[i]? = some x) (hv : Vis X.env.scope x) (hd : (x == ("__debug__" : Str)) = false) (hcd : (x == ("__classdict__" : Str)) = false) : SE X (.Name x pos) (dVar i) := by
  refine ⟨_, pe_var hN hv hd hcd, fun F H ρ σ t ρ' Q R e q => ?_⟩
  unfold dVar at e
  cases q1 : ρ[i]? with
  | none => rw [q1] at e; cases e
  | some c =>
    cases c with
    | none => rw [q1] at e; cases e
    | some t0 =>
      obtain ⟨v, hs, r⟩ := R.rep i t0 q1
      refine ⟨v, hs, ?_⟩
      cases o : t0.own with
      | false =>
        cases t0 with
        | lf d =>
          rw [q1] at e; cases e
          exact q v F H ((PV.same R.sub r).poE R)
        | _ => cases o
      | true =>
        have e' : t = .lf t0.strip ∧ ρ' = ρ.set i (some (.lf t0.strip)) := by
          cases t0 with
          | lf d => cases o
          | _ => rw [q1] at e; cases e; exact ⟨rfl, rfl⟩
        obtain ⟨rfl, rfl⟩ := e'
        obtain ⟨p, u, ev, h1, h2, _, r2⟩ := r.at_ o
        subst ev
        have own_i : Own ρ σ p := ⟨i, t0, q1, o, hs⟩
        have hl : i < ρ.length := (List.getElem?_eq_some_iff.mp q1).1
        have sub' : Sub (upd F p u) H := R.sub.fz h1
        refine q (.ref p) (upd F p u) H ⟨⟨upd_le h2, fun _ _ h _ => h, fun b hb => .inl (own_set_lf hb).1, fun b z => ?_⟩, ⟨by rw [len_set]; exact R.len, sub', fun j t2 ej => ?_, fun j k t1 t2 b ne ej oj sj ek ok sk => ?_⟩, r2, fun _ o => nomatch o⟩
        · by_cases hb : b = p
          · subst hb; exact .inr (.inl own_i)
          · rw [upd_ne hb] at z; exact .inl z
        · by_cases hj : j = i
          · subst hj
            rw [List.getElem?_set_self hl] at ej
            cases ej
            exact ⟨_, hs, r2⟩
          · rw [List.getElem?_set_ne (Ne.symm hj)] at ej
            obtain ⟨v2, s2, r3⟩ := R.rep j t2 ej
            refine ⟨v2, s2, r3.go (upd_le h2) fun b ob eb => ⟨rfl, ?_⟩⟩
            have ne : b ≠ p := fun z => by
              subst z; subst eb
              exact R.sep j i t2 t0 b hj ej ob s2 q1 o hs
            rw [upd_ne ne]
            obtain ⟨b', _, eb', _, f', _⟩ := r3.at_ ob
            rw [eb] at eb'; cases eb'; exact f'
        · have nj : j ≠ i := fun z => by
            subst z; rw [List.getElem?_set_self hl] at ej; cases ej; cases oj
          have nk : k ≠ i := fun z => by
            subst z; rw [List.getElem?_set_self hl] at ek; cases ek; cases ok
          rw [List.getElem?_set_ne (Ne.symm nj)] at ej
          rw [List.getElem?_set_ne (Ne.symm nk)] at ek
          exact R.sep j k t1 t2 b ne ej oj sj ek ok sk

/-! ### operators by values -/
def OpD (X : Cx) (f : Value → Value → Sem Value) (g : D → D → Option T) : Prop := ∃ r, OpR X f r ∧ ∀ (F H : Hp) (x y : V) (dx dy : D) (t : T) (Q : VK), Sub F H → RepD (gx X) F dx x → RepD (gx X) F dy y → g dx dy = some t →
  (∀ v F' H', PV (gx X) F H t v F' H' → Q v H') → r x y H Q
def UnD (X : Cx) (f : Value → Sem Value) (g : D → Option T) : Prop := ∃ r, UnR X f r ∧ ∀ (F H : Hp) (x : V) (dx : D) (t : T) (Q : VK), Sub F H → RepD (gx X) F dx x → g dx = some t →
  (∀ v F' H', PV (gx X) F H t v F' H' → Q v H') → r x H Q
def CallD (X : Cx) (f : Value) (g : List D → Option T) : Prop := ∃ r, CallR X f r ∧ ∀ (F H : Hp) (xs : List V) (ds : List D) (t : T) (Q : VK), Sub F H → RepDs (gx X) F ds xs → g ds = some t →
  (∀ v F' H', PV (gx X) F H t v F' H' → Q v H') → r xs H Q
theorem OpR.or {f : Value → Value → Sem Value} {r r' : R2} (h : OpR X f r) (h' : OpR X f r') : OpR X f (fun x y H Q => r x y H Q ∨ r' x y H Q) := fun pins s σ H x y v u Q I rx ry q => by
  rcases q with q | q
  · exact h pins s σ H x y v u Q I rx ry q
  · exact h' pins s σ H x y v u Q I rx ry q
theorem OpD.or {f : Value → Value → Sem Value} {g g1 g2 : D → D → Option T} (h1 : OpD X f g1) (h2 : OpD X f g2) (h : ∀ x y t, g x y = some t → g1 x y = some t ∨ g2 x y = some t) : OpD X f g := by
  obtain ⟨r1, p1, k1⟩ := h1
  obtain ⟨r2, p2, k2⟩ := h2
  refine ⟨_, OpR.or p1 p2, fun F H x y dx dy t Q s rx ry e q => ?_⟩
  rcases h dx dy t e with z | z
  · exact .inl (k1 F H x y dx dy t Q s rx ry z q)
  · exact .inr (k2 F H x y dx dy t Q s rx ry z q)
theorem CallD.or {f : Value} {g g1 g2 : List D → Option T} (h1 : CallD X f g1) (h2 : CallD X f g2) (h : ∀ x t, g x = some t → g1 x = some t ∨ g2 x = some t) : CallD X f g := by
  obtain ⟨r1, p1, k1⟩ := h1
  obtain ⟨r2, p2, k2⟩ := h2
  refine ⟨_, CallR.or p1 p2, fun F H x dx t Q s rx e q => ?_⟩
  rcases h dx t e with z | z
  · exact .inl (k1 F H x dx t Q s rx z q)
  · exact .inr (k2 F H x dx t Q s rx z q)

def dBin (g : D → D → Option T) (ma mb : Den) : Den := fun ρ => (dD ma ρ).bind fun p => (dD mb p.2).bind fun q => (g p.1 q.1).bind fun t => some (t, q.2)
def dUn (g : D → Option T) (ma : Den) : Den := fun ρ => (dD ma ρ).bind fun p => (g p.1).bind fun t => some (t, p.2)
theorem run_bin {g : D → D → Option T} {ma mb : Den} {r : R2} {ta tb : TE} (hr : ∀ (F H : Hp) (x y : V) (dx dy : D) (t : T) (Q : VK), Sub F H → RepD (gx X) F dx x → RepD (gx X) F dy y → g dx dy = some t →
      (∀ v F' H', PV (gx X) F H t v F' H' → Q v H') → r x y H Q)
    (ka : ∀ (F H : Hp) (ρ : En) (σ : St) (d : D) (ρ' : En) (Q : VK), Rel (gx X) F H ρ σ → dD ma ρ = some (d, ρ') → (∀ v F' H', PoD (gx X) F H ρ σ d v F' H' ρ' → Q v H') → ta σ H Q)
    (kb : ∀ (F H : Hp) (ρ : En) (σ : St) (d : D) (ρ' : En) (Q : VK), Rel (gx X) F H ρ σ → dD mb ρ = some (d, ρ') → (∀ v F' H', PoD (gx X) F H ρ σ d v F' H' ρ' → Q v H') → tb σ H Q) :
    ∀ (F H : Hp) (ρ : En) (σ : St) (t : T) (ρ' : En) (Q : VK), Rel (gx X) F H ρ σ → dBin g ma mb ρ = some (t, ρ') → (∀ v F' H', PoE (gx X) F H ρ σ t v F' H' ρ' → Q v H') → tOp r ta tb σ H Q := by
  intro F H ρ σ t ρ' Q R e q
  obtain ⟨⟨x, ρ1⟩, e1, e⟩ := bind_some e
  obtain ⟨⟨y, ρ2⟩, e2, e⟩ := bind_some e
  obtain ⟨t', e3, e⟩ := bind_some e
  cases e
  refine ka F H ρ σ x ρ1 _ R e1 fun v F1 H1 p1 => ?_
  refine kb F1 H1 ρ1 σ y _ _ p1.rel e2 fun u F2 H2 p2 => ?_
  exact hr F2 H2 v u x y t _ p2.rel.sub (RepD.le p2.st.le p1.rep) p2.rep e3 fun w F3 H3 p3 => q w F3 H3 (p1.trE (p2.trE (p3.poE p2.rel)))
theorem se_op {op : Operator} {g : D → D → Option T} {ma mb : Den} (ho : OpD X (binaryOp op) g) (ha : SE X a ma) (hb : SE X b mb) : SE X (.BinOp a op b pos) (dBin g ma mb) := by
  obtain ⟨r, hr, h⟩ := ho
  obtain ⟨ta, pa, ka⟩ := ha.d
  obtain ⟨tb, pb, kb⟩ := hb.d
  exact ⟨_, pe_op hr pa pb, run_bin h ka kb⟩
theorem se_cmp {op : CmpOp} {g : D → D → Option T} {ma mb : Den} (ho : OpD X (compareOp op) g) (ha : SE X a ma) (hb : SE X b mb) (hm : behindInMarks op b = false) : SE X (.Compare a [op] [b] pos) (dBin g ma mb) := by
  obtain ⟨r, hr, h⟩ := ho
  obtain ⟨ta, pa, ka⟩ := ha.d
  obtain ⟨tb, pb, kb⟩ := hb.d
  exact ⟨_, pe_cmpR hr pa pb hm, run_bin h ka kb⟩
/-- a value that is True or False, as a test -/
def dBl (m : Den) : DenB := fun ρ => (m ρ).bind fun p => match p.1 with
  | .lf (.bl b) => some (b, p.2)
  | _ => none
theorem st_cmp {op : CmpOp} {g : D → D → Option T} {ma mb : Den} (ho : OpD X (compareOp op) g) (ha : SE X a ma) (hb : SE X b mb) (hm : behindInMarks op b = false) : ST X (.Compare a [op] [b] pos) (dBl (dBin g ma mb)) := by
  obtain ⟨r, hr, h⟩ := ho
  obtain ⟨ta, pa, ka⟩ := ha.d
  obtain ⟨tb, pb, kb⟩ := hb.d
  refine ⟨_, pt_cmpR hr pa pb hm, fun F H ρ σ c ρ' Q R e q => ?_⟩
  obtain ⟨⟨t, ρ1⟩, e1, e⟩ := bind_some e
  refine run_bin h ka kb F H ρ σ t ρ1 _ R e1 fun v F' H' po => ?_
  cases t with
  | lf d =>
    cases d with
    | bl k => cases e; exact ⟨_, po.rep, q F' H' po.n⟩
    | _ => cases e
  | _ => cases e
theorem se_un {op : UnaryOp} {g : D → Option T} {ma : Den} (ho : UnD X (unaryOp op) g) (ha : SE X a ma) : SE X (.UnaryOp op a pos) (dUn g ma) := by
  obtain ⟨r, hr, h⟩ := ho
  obtain ⟨ta, pa, ka⟩ := ha.d
  refine ⟨_, pe_un hr pa, fun F H ρ σ t ρ' Q R e q => ?_⟩
  obtain ⟨⟨x, ρ1⟩, e1, e⟩ := bind_some e
  obtain ⟨t', e3, e⟩ := bind_some e
  cases e
  refine ka F H ρ σ x _ _ R e1 fun v F1 H1 p1 => ?_
  exact h F1 H1 v x t _ p1.rel.sub p1.rep e3 fun w F3 H3 p3 => q w F3 H3 (p1.trE (p3.poE p1.rel))
end VI

set_option Elab.async false
set_option linter.all false
set_option maxRecDepth 100000
set_option maxHeartbeats 4000000
/-! VC: operators and built-ins over data -/
namespace VI
open PySem PySem.Spec L2
open PyProof.Rows hiding St
variable {X : Cx}

def addD : D → D → Option T
  | .int i, .int j => some (.lf (.int (i + j)))
  | .str x, .str y => if x.length + y.length ≤ sizeLine then some (.lf (.str (x ++ y))) else none
  | .lst xs, .lst ys => if xs.length + ys.length ≤ sizeLine then some (.lst (xs ++ ys)) else none
  | .tup xs, .tup ys => if xs.length + ys.length ≤ sizeLine then some (.lf (.tup (xs ++ ys))) else none
  | _, _ => none
theorem ite_some {α : Type} {c : Prop} [Decidable c] {x y : α} (h : (if c then some x else none) = some y) : c ∧ x = y := by
  by_cases hc : c
  · rw [if_pos hc] at h; exact ⟨hc, Option.some.inj h⟩
  · rw [if_neg hc] at h; cases h
theorem od_add : OpD X (binaryOp .Add) addD := by
  refine ⟨_, OpR.or op_add (OpR.or op_add_str (OpR.or op_cat op_catF)), fun F H x y dx dy t Q s rx ry e q => ?_⟩
  cases dx with
  | int i =>
    cases dy with
    | int j => cases e; exact .inl ⟨i, j, rx, ry, q _ F H (PV.same s rfl)⟩
    | _ => cases e
  | str i =>
    cases dy with
    | str j => obtain ⟨c, rfl⟩ := ite_some e; exact .inr (.inl ⟨i, j, rx, ry, c, q _ F H (PV.same s rfl)⟩)
    | _ => cases e
  | lst xs =>
    cases dy with
    | lst ys =>
      obtain ⟨c, rfl⟩ := ite_some e
      obtain ⟨a, us, rfl, h1, r1⟩ := rx
      obtain ⟨b, ws, rfl, h2, r2⟩ := ry
      rw [r1.length, r2.length] at c
      exact .inr (.inr (.inl ⟨a, b, us, ws, rfl, rfl, s.lst h1, s.lst h2, c, fun p hp => q _ _ _ (PV.lst s (r1.append r2) hp)⟩))
    | _ => cases e
  | tup xs =>
    cases dy with
    | tup ys =>
      obtain ⟨c, rfl⟩ := ite_some e
      obtain ⟨a, us, o1, rfl, h1, _, r1⟩ := id rx
      obtain ⟨b, ws, o2, rfl, h2, _, r2⟩ := id ry
      have l1 := r1.length
      have l2 := r2.length
      rw [l1, l2] at c
      refine .inr (.inr (.inr ⟨a, b, us, ws, rfl, rfl, s.rdT h1 _, s.rdT h2 _, c, fun z => ?_, fun z w => ?_, fun _ _ => PV.newT s (r1.append r2) q⟩))
      · subst z
        cases xs with
        | nil => exact q _ F H (PV.same s ry)
        | cons _ _ => simp at l1
      · subst w
        cases ys with
        | nil => rw [List.append_nil] at q; exact q _ F H (PV.same s rx)
        | cons _ _ => simp at l2
    | _ => cases e
  | _ => cases e
def intsD (g : Int → Int → Option T) : D → D → Option T
  | .int i, .int j => g i j
  | _, _ => none
theorem intsD_some {g : Int → Int → Option T} {dx dy : D} {t : T} (h : intsD g dx dy = some t) : ∃ i j, dx = .int i ∧ dy = .int j ∧ g i j = some t := by
  unfold intsD at h
  split at h
  · exact ⟨_, _, rfl, rfl, h⟩
  · cases h
def subD : D → D → Option T := intsD fun i j => some (.lf (.int (i - j)))
theorem od_sub : OpD X (binaryOp .Sub) subD := by
  refine ⟨_, op_sub, fun F H x y dx dy t Q s rx ry e q => ?_⟩
  obtain ⟨i, j, rfl, rfl, e⟩ := intsD_some e
  cases e
  exact ⟨i, j, rx, ry, q _ F H (PV.same s rfl)⟩
/-- small enough for a product -/
def smallI (i : Int) : Bool := decide (-(2 ^ 64) < i) && decide (i < 2 ^ 64)
theorem smallI_iff {i : Int} : smallI i = true ↔ -(2 ^ 64) < i ∧ i < 2 ^ 64 := by unfold smallI; simp
def repL (xs : List D) (k : Int) : List D := (List.replicate k.toNat xs).flatten
def mulD : D → D → Option T
  | .int i, .int j => if smallI i = true ∨ smallI j = true then some (.lf (.int (i * j))) else none
  | .lst xs, .int k => if -(2 ^ 63) ≤ k ∧ k < 2 ^ 63 ∧ xs.length * k.toNat ≤ sizeLine then some (.lst (repL xs k)) else none
  | .tup xs, .int k => if -(2 ^ 63) ≤ k ∧ k < 2 ^ 63 ∧ xs.length * k.toNat ≤ sizeLine then some (.lf (.tup (repL xs k))) else none
  | _, _ => none
theorem RepDs.rep {G : Gx} {F : Hp} {ds : List D} {us : List V} (h : RepDs G F ds us) : ∀ k : Nat, RepDs G F (List.replicate k ds).flatten (List.replicate k us).flatten
  | 0 => rfl
  | k + 1 => by
    simp only [List.replicate_succ, List.flatten_cons]
    exact h.append (RepDs.rep h k)
theorem RepDs.nil_iff {G : Gx} {F : Hp} {ds : List D} {us : List V} (h : RepDs G F ds us) : us = [] ↔ ds = [] := by
  have l := h.length
  constructor
  · intro e; subst e; exact List.eq_nil_of_length_eq_zero l
  · intro e; subst e; exact h
theorem od_mul : OpD X (binaryOp .Mult) mulD := by
  refine ⟨_, OpR.or op_mul (OpR.or op_rep op_repF), fun F H x y dx dy t Q s rx ry e q => ?_⟩
  cases dx with
  | int i =>
    cases dy with
    | int j =>
      obtain ⟨c, rfl⟩ := ite_some e
      exact .inl ⟨i, j, rx, ry, c.imp smallI_iff.mp smallI_iff.mp, q _ F H (PV.same s rfl)⟩
    | _ => cases e
  | lst xs =>
    cases dy with
    | int k =>
      obtain ⟨⟨c1, c2, c3⟩, rfl⟩ := ite_some e
      obtain ⟨a, us, rfl, h1, r1⟩ := rx
      rw [r1.length] at c3
      exact .inr (.inl ⟨a, k, us, rfl, ry, s.lst h1, c1, c2, c3, fun p hp => q _ _ _ (PV.lst s (r1.rep k.toNat) hp)⟩)
    | _ => cases e
  | tup xs =>
    cases dy with
    | int k =>
      obtain ⟨⟨c1, c2, c3⟩, rfl⟩ := ite_some e
      obtain ⟨a, us, o, rfl, h1, z, r1⟩ := id rx
      rw [r1.length] at c3
      refine .inr (.inr ⟨a, k, us, rfl, ry, s.rdT h1 _, c1, c2, c3, fun hk => ?_, fun _ => PV.newT s (r1.rep k.toNat) q⟩)
      have e : repL xs k = xs := by
        unfold repL
        rcases hk with hk | hk
        · rw [r1.nil_iff.mp hk]
          induction k.toNat with
          | zero => rfl
          | succ n ih => rw [List.replicate_succ, List.flatten_cons, ih]; rfl
        · subst hk
          show (List.replicate 1 xs).flatten = xs
          simp
      rw [e] at q
      exact q _ F H (PV.same s rx)
    | _ => cases e
  | _ => cases e
def fdivD : D → D → Option T := intsD fun i j => if 0 < j ∧ j < 1073741824 then some (.lf (.int (i / j))) else none
theorem od_fdiv : OpD X (binaryOp .FloorDiv) fdivD := by
  refine ⟨_, op_fdiv, fun F H x y dx dy t Q s rx ry e q => ?_⟩
  obtain ⟨i, j, rfl, rfl, e⟩ := intsD_some e
  obtain ⟨c, rfl⟩ := ite_some e
  exact ⟨i, j, rx, ry, c, q _ F H (PV.same s rfl)⟩
def modD : D → D → Option T := intsD fun i j => if 0 < j then some (.lf (.int (i % j))) else none
theorem od_mod : OpD X (binaryOp .Mod) modD := by
  refine ⟨_, op_mod, fun F H x y dx dy t Q s rx ry e q => ?_⟩
  obtain ⟨i, j, rfl, rfl, e⟩ := intsD_some e
  obtain ⟨c, rfl⟩ := ite_some e
  exact ⟨i, j, rx, ry, c, q _ F H (PV.same s rfl)⟩
def powD : D → D → Option T := intsD fun i j => if 0 ≤ j ∧ j ≤ 1000000 ∧ i.natAbs < 2 ^ 64 then some (.lf (.int (i ^ j.toNat))) else none
theorem od_pow : OpD X (binaryOp .Pow) powD := by
  refine ⟨_, op_pow, fun F H x y dx dy t Q s rx ry e q => ?_⟩
  obtain ⟨i, j, rfl, rfl, e⟩ := intsD_some e
  obtain ⟨c, rfl⟩ := ite_some e
  exact ⟨i, j, rx, ry, c, q _ F H (PV.same s rfl)⟩
def negD : D → Option T
  | .int i => some (.lf (.int (-i)))
  | _ => none
theorem ud_neg : UnD X (unaryOp .USub) negD := by
  refine ⟨_, un_neg, fun F H x dx t Q s rx e q => ?_⟩
  unfold negD at e
  split at e
  · cases e; exact ⟨_, rx, q _ F H (PV.same s rfl)⟩
  · cases e

/-! ### order -/
def cmpI (p : Int → Int → Bool) : D → D → Option T := intsD fun i j => some (.lf (.bl (p i j)))
theorem od_cmpI {op : CmpOp} {p : Int → Int → Bool} (h : OpR X (compareOp op) (rI0 fun i j => .bl (p i j))) : OpD X (compareOp op) (cmpI p) := by
  refine ⟨_, h, fun F H x y dx dy t Q s rx ry e q => ?_⟩
  obtain ⟨i, j, rfl, rfl, e⟩ := intsD_some e
  cases e
  exact ⟨i, j, rx, ry, q _ F H (PV.same s rfl)⟩
def ltD : D → D → Option T := cmpI fun i j => decide (i < j)
def leD : D → D → Option T := cmpI fun i j => decide (i ≤ j)
def gtD : D → D → Option T := cmpI fun i j => decide (j < i)
def geD : D → D → Option T := cmpI fun i j => decide (j ≤ i)
theorem od_lt : OpD X (compareOp .Lt) ltD := od_cmpI op_lt
theorem od_le : OpD X (compareOp .LtE) leD := od_cmpI op_le
theorem od_gt : OpD X (compareOp .Gt) gtD := od_cmpI op_gt
theorem od_ge : OpD X (compareOp .GtE) geD := od_cmpI op_ge

/-! ### equality -/
mutual
def eqv : D → D → Bool
  | .non, .non => true
  | .bl a, .bl b => a == b
  | .bl a, .int j => (if a then 1 else 0) == j
  | .int i, .bl b => i == (if b then 1 else 0)
  | .int i, .int j => i == j
  | .str x, .str y => x == y
  | .lst xs, .lst ys => eqvs xs ys
  | .tup xs, .tup ys => eqvs xs ys
  | _, _ => false
def eqvs : List D → List D → Bool
  | [], [] => true
  | x :: xs, y :: ys => eqv x y && eqvs xs ys
  | _, _ => false
end
/-- plain data, no deeper than n -/
def sh : Nat → D → Bool
  | _, .non => true
  | _, .bl _ => true
  | _, .int _ => true
  | _, .str x => PyData.strOk x
  | n + 1, .lst xs => xs.all (sh n)
  | n + 1, .tup xs => xs.all (sh n)
  | _, _ => false
mutual
def py : D → PyData
  | .non => .none
  | .bl b => .bool b
  | .int i => .int i
  | .str x => .str x
  | .lst xs => .list (pys xs)
  | .tup xs => .tuple (pys xs)
  | .dct _ _ => .dict []
  | .dctT _ _ => .dict []
  | .scr _ => .dict []
  | .fn _ => .dict []
  | .rng _ _ _ _ => .dict []
  | .ty _ => .dict []
def pys : List D → List PyData
  | [] => []
  | d :: ds => py d :: pys ds
end
mutual
theorem eqv_py : ∀ d e : D, PyData.eqv (py d) (py e) = eqv d e
  | .non, e => by cases e <;> simp [py, PyData.eqv, eqv]
  | .bl b, e => by cases e <;> simp [py, PyData.eqv, eqv]
  | .int b, e => by cases e <;> simp [py, PyData.eqv, eqv]
  | .str b, e => by cases e <;> simp [py, PyData.eqv, eqv]
  | .lst xs, e => by cases e <;> simp [py, PyData.eqv, eqv, eqvs_py xs]
  | .tup xs, e => by cases e <;> simp [py, PyData.eqv, eqv, eqvs_py xs]
  | .dct _ _, e => by cases e <;> simp [py, PyData.eqv, eqv]
  | .dctT _ _, e => by cases e <;> simp [py, PyData.eqv, eqv]
  | .scr _, e => by cases e <;> simp [py, PyData.eqv, eqv]
  | .fn _, e => by cases e <;> simp [py, PyData.eqv, eqv]
  | .rng _ _ _ _, e => by cases e <;> simp [py, PyData.eqv, eqv]
  | .ty _, e => by cases e <;> simp [py, PyData.eqv, eqv]
theorem eqvs_py : ∀ ds es : List D, PyData.eqvAll (pys ds) (pys es) = eqvs ds es
  | [], [] => by simp [pys, PyData.eqvAll, eqvs]
  | [], _ :: _ => by simp [pys, PyData.eqvAll, eqvs]
  | _ :: _, [] => by simp [pys, PyData.eqvAll, eqvs]
  | d :: ds, e :: es => by simp [pys, PyData.eqvAll, eqvs, eqv_py d e, eqvs_py ds es]
end
theorem sh_py : ∀ (n : Nat) (d : D), sh n d = true → (py d).canLay0 = true ∧ (py d).depth ≤ n := by
  have lists : ∀ (n : Nat), (∀ d : D, sh n d = true → (py d).canLay0 = true ∧ (py d).depth ≤ n) → ∀ xs : List D, xs.all (sh n) = true → PyData.canLayAll0 (pys xs) = true ∧ PyData.depthAll (pys xs) ≤ n := by
    intro n ih xs
    induction xs with
    | nil => intro _; simp [pys, PyData.canLayAll0, PyData.depthAll]
    | cons d ds ih2 =>
      intro h
      simp only [List.all_cons, Bool.and_eq_true] at h
      obtain ⟨a1, a2⟩ := ih d h.1
      obtain ⟨b1, b2⟩ := ih2 h.2
      simp only [pys, PyData.canLayAll0, PyData.depthAll, a1, b1, Bool.and_self, true_and]
      omega
  intro n
  induction n with
  | zero =>
    intro d h
    cases d with
    | str x => exact ⟨by simpa [py, PyData.canLay0, sh] using h, by simp [py, PyData.depth]⟩
    | non => simp [py, PyData.canLay0, PyData.depth]
    | bl _ => simp [py, PyData.canLay0, PyData.depth]
    | int _ => simp [py, PyData.canLay0, PyData.depth]
    | _ => simp [sh] at h
  | succ n ih =>
    intro d h
    cases d with
    | str x => exact ⟨by simpa [py, PyData.canLay0, sh] using h, by simp [py, PyData.depth]⟩
    | non => simp [py, PyData.canLay0, PyData.depth]
    | bl _ => simp [py, PyData.canLay0, PyData.depth]
    | int _ => simp [py, PyData.canLay0, PyData.depth]
    | lst xs =>
      obtain ⟨a, b⟩ := lists n ih xs (by simpa [sh] using h)
      exact ⟨by simpa [py, PyData.canLay0] using a, by simp only [py, PyData.depth]; omega⟩
    | tup xs =>
      obtain ⟨a, b⟩ := lists n ih xs (by simpa [sh] using h)
      exact ⟨by simpa [py, PyData.canLay0] using a, by simp only [py, PyData.depth]; omega⟩
    | _ => simp [sh] at h
theorem shaped_of {d : D} (h : sh 64 d = true) : SeqAt.shaped (py d) = true := by
  obtain ⟨a, b⟩ := sh_py 64 d h
  unfold SeqAt.shaped
  rw [a, decide_eq_true b]
  rfl
section
variable {G : Gx} {F H : Hp}
theorem dp_of (s : Sub F H) : ∀ (n : Nat) (d : D) (v : V), sh n d = true → RepD G F d v → Dp G.K H v (py d) := by
  have lists : ∀ (n : Nat), (∀ (d : D) (v : V), sh n d = true → RepD G F d v → Dp G.K H v (py d)) → ∀ (xs : List D) (vs : List V), xs.all (sh n) = true → RepDs G F xs vs → DpAll G.K H vs (pys xs) := by
    intro n ih xs
    induction xs with
    | nil => intro vs _ r; cases r; exact .nil
    | cons d ds ih2 =>
      intro vs h r
      obtain ⟨u, w, rfl, r1, r2⟩ := r
      simp only [List.all_cons, Bool.and_eq_true] at h
      exact .cons (ih d u h.1 r1) (ih2 w h.2 r2)
  intro n
  induction n with
  | zero =>
    intro d v h r
    cases d with
    | str x => cases r; exact .str x
    | non => cases r; exact .non
    | bl b => cases r; exact .bl b
    | int i => cases r; exact .int i
    | _ => simp [sh] at h
  | succ n ih =>
    intro d v h r
    cases d with
    | str x => cases r; exact .str x
    | non => cases r; exact .non
    | bl b => cases r; exact .bl b
    | int i => cases r; exact .int i
    | lst xs =>
      obtain ⟨a, us, rfl, h1, r1⟩ := r
      exact .lst (SqL.of (s.lst h1)) (lists n ih xs us (by simpa [sh] using h) r1)
    | tup xs =>
      obtain ⟨a, us, o, rfl, h1, _, r1⟩ := r
      exact .tup (s.rdT h1 _) (lists n ih xs us (by simpa [sh] using h) r1)
    | _ => simp [sh] at h
end
def eqD (x y : D) : Option T := if sh 64 x = true ∧ sh 64 y = true then some (.lf (.bl (eqv x y))) else none
def neD (x y : D) : Option T := if sh 64 x = true ∧ sh 64 y = true then some (.lf (.bl (!eqv x y))) else none
theorem od_eq (hu : X.A.units + 64 < cLine) : OpD X (compareOp .Eq) eqD := by
  refine ⟨_, op_eqD hu, fun F H x y dx dy t Q s rx ry e q => ?_⟩
  obtain ⟨⟨c1, c2⟩, rfl⟩ := ite_some e
  exact ⟨py dx, py dy, dp_of (G := gx X) s 64 dx x c1 rx, dp_of (G := gx X) s 64 dy y c2 ry, shaped_of c1, shaped_of c2, q _ F H (PV.same s (by rw [eqv_py]; rfl))⟩
theorem od_ne (hu : X.A.units + 64 < cLine) : OpD X (compareOp .NotEq) neD := by
  refine ⟨_, op_neD hu, fun F H x y dx dy t Q s rx ry e q => ?_⟩
  obtain ⟨⟨c1, c2⟩, rfl⟩ := ite_some e
  exact ⟨py dx, py dy, dp_of (G := gx X) s 64 dx x c1 rx, dp_of (G := gx X) s 64 dy y c2 ry, shaped_of c1, shaped_of c2, q _ F H (PV.same s (by rw [eqv_py]; rfl))⟩
def isNon : D → Bool
  | .non => true
  | _ => false
theorem isNon_of {G : Gx} {F : Hp} {d : D} {v : V} (r : RepD G F d v) : decide (v = .non) = isNon d := by
  cases d with
  | non => cases r; rfl
  | bl _ => cases r; rfl
  | int _ => cases r; rfl
  | str _ => cases r; rfl
  | lst _ => obtain ⟨_, _, rfl, _⟩ := r; rfl
  | tup _ => obtain ⟨_, _, _, rfl, _⟩ := r; rfl
  | dct _ _ => obtain ⟨_, _, rfl, _⟩ := r; rfl
  | dctT _ _ => obtain ⟨_, _, rfl, _⟩ := r; rfl
  | scr _ => obtain ⟨_, rfl, _⟩ := r; rfl
  | fn _ => obtain ⟨_, rfl, _⟩ := r; rfl
  | rng _ _ _ _ => obtain ⟨_, rfl, _⟩ := r; rfl
  | ty _ => cases r; rfl
def isD (x y : D) : Option T := if isNon y = true then some (.lf (.bl (isNon x))) else none
def isNotD (x y : D) : Option T := if isNon y = true then some (.lf (.bl (!isNon x))) else none
theorem od_is : OpD X (compareOp .Is) isD := by
  refine ⟨_, op_isN, fun F H x y dx dy t Q s rx ry e q => ?_⟩
  obtain ⟨c1, rfl⟩ := ite_some e
  have hy : y = .non := of_decide_eq_true ((isNon_of ry).trans c1)
  exact ⟨hy, q _ F H (PV.same s (by rw [isNon_of rx]; rfl))⟩
theorem od_isNot : OpD X (compareOp .IsNot) isNotD := by
  refine ⟨_, op_notN, fun F H x y dx dy t Q s rx ry e q => ?_⟩
  obtain ⟨c1, rfl⟩ := ite_some e
  have hy : y = .non := of_decide_eq_true ((isNon_of ry).trans c1)
  exact ⟨hy, q _ F H (PV.same s (by rw [isNon_of rx]; rfl))⟩
end VI

set_option Elab.async false
set_option linter.all false
set_option maxRecDepth 100000
set_option maxHeartbeats 4000000
/-! VD: subscripts, in, len, truth: of what may be a slot's own list or dict too -/
namespace VI
open PySem PySem.Spec L2
open PyProof.Rows hiding St
variable {X : Cx}

/-- d is what v is worth now, be it a slot's own -/
def RepB (G : Gx) (F H : Hp) (d : D) (v : V) : Prop := ∃ t : T, t.strip = d ∧ RepT G F H t v
theorem RepB.of {G : Gx} {F H : Hp} {d : D} {v : V} (h : RepD G F d v) : RepB G F H d v := ⟨.lf d, rfl, h⟩
section
variable {G : Gx} {F H : Hp}
theorem RepB.lst (s : Sub F H) {ds : List D} {v : V} (h : RepB G F H (.lst ds) v) : ∃ a us, v = .ref a ∧ H a = some (.lst us) ∧ RepDs G F ds us := by
  obtain ⟨t, e, r⟩ := h
  cases t with
  | lf d => cases e; obtain ⟨a, us, e1, h1, r1⟩ := r; exact ⟨a, us, e1, s.lst h1, r1⟩
  | lst xs => cases e; obtain ⟨a, us, e1, h1, _, r1⟩ := r; exact ⟨a, us, e1, h1, r1⟩
  | dct _ _ => cases e
  | dctT _ _ => cases e
theorem RepB.dct (s : Sub F H) {ks : List Key} {ds : List D} {v : V} (h : RepB G F H (.dct ks ds) v) : ∃ a us, v = .ref a ∧ Rd H a (.dK (ks.zip us)) ∧ ks.length = us.length ∧ RepDs G F ds us := by
  obtain ⟨t, e, r⟩ := h
  cases t with
  | lf d => cases e; obtain ⟨a, us, e1, h1, l, r1⟩ := r; exact ⟨a, us, e1, s.rd (.inl h1), l, r1⟩
  | lst xs => cases e
  | dct _ _ => cases e; obtain ⟨a, us, e1, h1, _, l, r1⟩ := r; exact ⟨a, us, e1, .inl h1, l, r1⟩
  | dctT _ _ => cases e
theorem RepB.dctT (s : Sub F H) {ks : List (List Key)} {ds : List D} {v : V} (h : RepB G F H (.dctT ks ds) v) : ∃ a us, v = .ref a ∧ Rd H a (.dT (ks.zip us)) ∧ ks.length = us.length ∧ RepDs G F ds us := by
  obtain ⟨t, e, r⟩ := h
  cases t with
  | lf d => cases e; obtain ⟨a, us, e1, h1, l, r1⟩ := r; exact ⟨a, us, e1, s.rd (.inl h1), l, r1⟩
  | lst xs => cases e
  | dctT _ _ => cases e; obtain ⟨a, us, e1, h1, _, l, r1⟩ := r; exact ⟨a, us, e1, .inl h1, l, r1⟩
  | dct _ _ => cases e
/-- what is no list nor dict is frozen -/
def fzD : D → Bool
  | .lst _ => false
  | .dct _ _ => false
  | .dctT _ _ => false
  | _ => true
theorem RepB.fz {d : D} {v : V} (h : RepB G F H d v) (f : fzD d = true) : RepD G F d v := by
  obtain ⟨t, e, r⟩ := h
  cases t with
  | lf _ => cases e; exact r
  | lst _ => cases e; cases f
  | dct _ _ => cases e; cases f
  | dctT _ _ => cases e; cases f
/-- flat keys -/
def keyD : D → Option Key
  | .int i => some (.inl i)
  | .str x => some (.inr x)
  | _ => none
def keysD : List D → Option (List Key)
  | [] => some []
  | d :: ds => (keyD d).bind fun k => (keysD ds).bind fun ks => some (k :: ks)
theorem keyD_rep {d : D} {k : Key} (h : keyD d = some k) {v : V} (r : RepD G F d v) : v = kV k := by
  cases d with
  | int i => cases h; exact r
  | str i => cases h; exact r
  | _ => cases h
theorem keysD_rep : ∀ {ds : List D} {ks : List Key}, keysD ds = some ks → ∀ {us : List V}, RepDs G F ds us → us = ks.map kV
  | [], _, h, _, r => by cases h; exact r
  | d :: ds, _, h, _, ⟨u, w, e, r1, r2⟩ => by
    obtain ⟨k, e1, h⟩ := bind_some h
    obtain ⟨ks, e2, h⟩ := bind_some h
    cases h
    rw [e, keyD_rep e1 r1, keysD_rep e2 r2]
    rfl
end
def dlook {κ : Type} [DecidableEq κ] : List κ → List D → κ → Option D
  | k :: ks, d :: ds, x => if k = x then some d else dlook ks ds x
  | _, _, _ => none
theorem dlook_rep {κ : Type} [DecidableEq κ] {G : Gx} {F : Hp} (x : κ) : ∀ {ks : List κ} {ds : List D} {us : List V}, RepDs G F ds us → ks.length = us.length →
    (∀ d, dlook ks ds x = some d → ∃ v, valV (ks.zip us) x = some v ∧ RepD G F d v) ∧ (dlook ks ds x = none → valV (ks.zip us) x = none)
  | [], _, _, _, _ => ⟨fun d h => (by simp [dlook] at h), fun _ => rfl⟩
  | k :: ks, [], us, r, l => by cases r; cases l
  | k :: ks, d :: ds, us, ⟨u, w, e, r1, r2⟩, l => by
    subst e
    obtain ⟨h1, h2⟩ := dlook_rep x (ks := ks) r2 (by simpa using l)
    by_cases hk : k = x
    · constructor
      · intro d' h
        simp only [dlook, if_pos hk] at h
        cases h
        exact ⟨u, valV_pos hk, r1⟩
      · intro h; simp only [dlook, if_pos hk] at h; cases h
    · have e : valV ((k :: ks).zip (u :: w)) x = valV (ks.zip w) x := valV_neg hk
      constructor
      · intro d' h
        simp only [dlook, if_neg hk] at h
        rw [e]; exact h1 d' h
      · intro h
        simp only [dlook, if_neg hk] at h
        rw [e]; exact h2 h

/-! ### late values -/
inductive LV where
  | sl (i : Nat) | va (d : D)
def LV.at_ : LV → En → Option D
  | .sl i, ρ => match ρ[i]? with
    | some (some t) => some t.strip
    | _ => none
  | .va d, _ => some d
abbrev DenO := En → Option (LV × En)
def LRep (G : Gx) (F : Hp) (ρ : En) (σ : St) : LV → V → Prop
  | .sl i, v => σ[i]? = some (some v)
  | .va d, v => RepD G F d v
theorem LRep.now {G : Gx} {F F' H' : Hp} {ρ ρ' : En} {σ : St} {l : LV} {v : V} (h : LRep G F ρ σ l v) (le : Le F F') (R : Rel G F' H' ρ' σ) {d : D} (e : l.at_ ρ' = some d) : RepB G F' H' d v := by
  cases l with
  | va d' => cases e; exact .of (RepD.le le h)
  | sl i =>
    unfold LV.at_ at e
    simp only at e
    split at e
    · rename_i t q
      cases e
      obtain ⟨w, hw, r⟩ := R.rep i t q
      have h' : σ[i]? = some (some v) := h
      rw [hw] at h'; cases h'
      exact ⟨t, rfl, r⟩
    · cases e
def SO (X : Cx) (e : Expr) (m : DenO) : Prop := ∃ te, PE X e te ∧ ∀ (F H : Hp) (ρ : En) (σ : St) (l : LV) (ρ' : En) (Q : VK), Rel (gx X) F H ρ σ → m ρ = some (l, ρ') →
  (∀ v F' H', PoN (gx X) F H ρ σ F' H' ρ' → LRep (gx X) F' ρ' σ l v → Q v H') → te σ H Q
def dSl (i : Nat) : DenO := fun ρ => match ρ[i]? with
  | some (some _) => some (.sl i, ρ)
  | _ => none
def dO (m : Den) : DenO := fun ρ => (dD m ρ).bind fun p => some (.va p.1, p.2)
variable {a b e : Expr} {es : List Expr} {pos : Pos}
theorem so_var {i : Nat} {x : Str} (hN : X.N[i]? = some x) (hv : Vis X.env.scope x) (hd : (x == ("__debug__" : Str)) = false) (hcd : (x == ("__classdict__" : Str)) = false) : SO X (.Name x pos) (dSl i) := by
  refine ⟨_, pe_var hN hv hd hcd, fun F H ρ σ l ρ' Q R e q => ?_⟩
  unfold dSl at e
  split at e
  · rename_i t q1
    cases e
    obtain ⟨v, hs, r⟩ := R.rep i t q1
    exact ⟨v, hs, q v F H (.refl R) hs⟩
  · cases e
theorem SE.o {m : Den} (h : SE X e m) : SO X e (dO m) := by
  obtain ⟨te, p, k⟩ := h.d
  refine ⟨te, p, fun F H ρ σ l ρ' Q R e q => ?_⟩
  obtain ⟨⟨d, ρ1⟩, e1, e⟩ := bind_some e
  cases e
  exact k F H ρ σ d _ Q R e1 fun v F' H' po => q v F' H' po.n po.rep

/-- an operation whose operands may be a slot's own -/
def RulB (X : Cx) (r : R2) (g : D → D → Option T) : Prop := ∀ (F H : Hp) (x y : V) (dx dy : D) (t : T) (Q : VK), Sub F H → RepB (gx X) F H dx x → RepB (gx X) F H dy y → g dx dy = some t →
  (∀ v F' H', PV (gx X) F H t v F' H' → Q v H') → r x y H Q
def dBinO (g : D → D → Option T) (ma mb : DenO) : Den := fun ρ => (ma ρ).bind fun p => (mb p.2).bind fun q => (p.1.at_ q.2).bind fun x => (q.1.at_ q.2).bind fun y => (g x y).bind fun t => some (t, q.2)
theorem run_binO {g : D → D → Option T} {ma mb : DenO} {r : R2} {ta tb : TE} (hr : RulB X r g)
    (ka : ∀ (F H : Hp) (ρ : En) (σ : St) (l : LV) (ρ' : En) (Q : VK), Rel (gx X) F H ρ σ → ma ρ = some (l, ρ') → (∀ v F' H', PoN (gx X) F H ρ σ F' H' ρ' → LRep (gx X) F' ρ' σ l v → Q v H') → ta σ H Q)
    (kb : ∀ (F H : Hp) (ρ : En) (σ : St) (l : LV) (ρ' : En) (Q : VK), Rel (gx X) F H ρ σ → mb ρ = some (l, ρ') → (∀ v F' H', PoN (gx X) F H ρ σ F' H' ρ' → LRep (gx X) F' ρ' σ l v → Q v H') → tb σ H Q) :
    ∀ (F H : Hp) (ρ : En) (σ : St) (t : T) (ρ' : En) (Q : VK), Rel (gx X) F H ρ σ → dBinO g ma mb ρ = some (t, ρ') → (∀ v F' H', PoE (gx X) F H ρ σ t v F' H' ρ' → Q v H') → tOp r ta tb σ H Q := by
  intro F H ρ σ t ρ' Q R e q
  obtain ⟨⟨l1, ρ1⟩, e1, e⟩ := bind_some e
  obtain ⟨⟨l2, ρ2⟩, e2, e⟩ := bind_some e
  obtain ⟨x, e3, e⟩ := bind_some e
  obtain ⟨y, e4, e⟩ := bind_some e
  obtain ⟨t', e5, e⟩ := bind_some e
  cases e
  refine ka F H ρ σ l1 ρ1 _ R e1 fun v F1 H1 p1 n1 => ?_
  refine kb F1 H1 ρ1 σ l2 _ _ p1.rel e2 fun u F2 H2 p2 n2 => ?_
  exact hr F2 H2 v u x y t _ p2.rel.sub (n1.now p2.st.le p2.rel e3) (n2.now (Le.refl _) p2.rel e4) e5 fun w F3 H3 p3 => q w F3 H3 (p1.trE (p2.trE (p3.poE p2.rel)))
theorem se_cmpO {op : CmpOp} {g : D → D → Option T} {ma mb : DenO} {r : R2} (ho : OpR X (compareOp op) r) (hr : RulB X r g) (ha : SO X a ma) (hb : SO X b mb) (hm : behindInMarks op b = false) : SE X (.Compare a [op] [b] pos) (dBinO g ma mb) := by
  obtain ⟨ta, pa, ka⟩ := ha
  obtain ⟨tb, pb, kb⟩ := hb
  exact ⟨_, pe_cmpR ho pa pb hm, run_binO hr ka kb⟩
theorem st_cmpO {op : CmpOp} {g : D → D → Option T} {ma mb : DenO} {r : R2} (ho : OpR X (compareOp op) r) (hr : RulB X r g) (ha : SO X a ma) (hb : SO X b mb) (hm : behindInMarks op b = false) : ST X (.Compare a [op] [b] pos) (dBl (dBinO g ma mb)) := by
  obtain ⟨ta, pa, ka⟩ := ha
  obtain ⟨tb, pb, kb⟩ := hb
  refine ⟨_, pt_cmpR ho pa pb hm, fun F H ρ σ c ρ' Q R e q => ?_⟩
  obtain ⟨⟨t, ρ1⟩, e1, e⟩ := bind_some e
  refine run_binO hr ka kb F H ρ σ t ρ1 _ R e1 fun v F' H' po => ?_
  cases t with
  | lf d =>
    cases d with
    | bl k => cases e; exact ⟨_, po.rep, q F' H' po.n⟩
    | _ => cases e
  | _ => cases e
theorem se_ixO {g : D → D → Option T} {ma mb : DenO} {r : R2} (ho : IxR X r) (hr : RulB X r g) (ha : SO X a ma) (hb : SO X b mb) (hs : PlainIx b) : SE X (.Subscript a b pos) (dBinO g ma mb) := by
  obtain ⟨ta, pa, ka⟩ := ha
  obtain ⟨tb, pb, kb⟩ := hb
  exact ⟨_, pe_ix ho pa pb hs, run_binO hr ka kb⟩

/-! ### a[b] -/
def rIxD : R2 := fun x y H Q => ∃ a v, x = .ref a ∧ DGet H a y (some v) ∧ Q v H
theorem ix_dict (hu : X.A.units + 1 < cLine) : IxR X rIxD := by
  intro value slice pins s σ H x y v u Q I rx ry h hs
  obtain ⟨a, z, rfl, g, q⟩ := h
  obtain rfl : v = Value.ref a := rx
  have hT := dict_typeIs I g
  unfold subscriptTail
  refine wpAny_bind ?_
  rw [getitemInPython_of_ne hT.not_modules]
  refine wpAny_bind (wpAny_specialOf hT PySem.F.slot_dict_getitem.lookup ?_)
  have fin : wpAny (model X.prog X.w) X.A (subscripted slice false (.ref a) u) (fun r s₃ => wpAny (model X.prog X.w) X.A (letTemporaryGo value (.ref a) r >>= fun _ => pure r) (EP X pins σ Q) X.xe s₃) X.xe s := by
    rw [hs]
    exact wpAny_operating (thn (d_getItem hu I g ry fun w' s3 I3 rw' => (⟨z, H, I3, rw', q⟩ : EP X pins σ Q w' s3)) fun r s₃ h₃ => wpAny_bind (wpAny_letTemporaryGo (wpAny_pure h₃)))
  first
    | exact wpAny_pure (wpAny_bind fin)
    | exact wpAny_bind (wpAny_pure (wpAny_bind fin))
    | exact wpAny_bind fin
def signAt (x : Str) (i : Int) : Option T := if x.length ≤ sizeLine then (atI x.cps.toList i).bind fun c => some (.lf (.str ⟨#[c]⟩)) else none
def ixD : D → D → Option T
  | .lst xs, .int i => (atI xs i).bind fun d => some (.lf d)
  | .tup xs, .int i => (atI xs i).bind fun d => some (.lf d)
  | .str x, .int i => signAt x i
  | .scr ns, .int i => (atI ns i).bind fun d => some (.lf (.int d))
  | .dct ks ds, k => (keyD k).bind fun k => (dlook ks ds k).bind fun d => some (.lf d)
  | _, _ => none
theorem RepDs.atI {G : Gx} {F : Hp} {ds : List D} {us : List V} (r : RepDs G F ds us) {i : Int} {d : D} (h : L2.atI ds i = some d) : ∃ v, L2.atI us i = some v ∧ RepD G F d v := by
  unfold L2.atI at h ⊢
  rw [r.length] at h
  obtain ⟨j, e1, e2⟩ := bind_some h
  obtain ⟨v, e3, r3⟩ := r.get e2
  exact ⟨v, by rw [e1]; exact e3, r3⟩
theorem rul_ix : RulB X (fun x y H Q => rIx X.K x y H Q ∨ rIxD x y H Q) ixD := by
  intro F H x y dx dy t Q s rx ry e q
  cases dx with
  | lst xs =>
    cases dy with
    | int i =>
      obtain ⟨d, e1, e⟩ := bind_some e
      cases e
      obtain ⟨a, us, rfl, h1, r1⟩ := rx.lst s
      obtain ⟨v, e2, r2⟩ := r1.atI e1
      exact .inl (.inl ⟨a, us, i, v, rfl, ry.fz rfl, SqL.of h1, e2, q v F H (PV.same s r2)⟩)
    | _ => cases e
  | tup xs =>
    cases dy with
    | int i =>
      obtain ⟨d, e1, e⟩ := bind_some e
      cases e
      obtain ⟨a, us, o, rfl, h1, _, r1⟩ := rx.fz rfl
      obtain ⟨v, e2, r2⟩ := r1.atI e1
      exact .inl (.inr (.inl ⟨a, us, i, v, rfl, ry.fz rfl, s.rdT h1 _, e2, q v F H (PV.same s r2)⟩))
    | _ => cases e
  | scr ns =>
    cases dy with
    | int i =>
      obtain ⟨d, e1, e⟩ := bind_some e
      cases e
      obtain ⟨a, rfl, h1⟩ := rx.fz rfl
      obtain ⟨v, e2, r2⟩ := (RepDs.ints (G := gx X) (F := F) (ns := ns)).atI (i := i) (d := .int d) (by
        unfold L2.atI at e1 ⊢
        obtain ⟨j, f1, f2⟩ := bind_some e1
        rw [List.length_map, f1]
        show (ns.map D.int)[j]? = _
        rw [List.getElem?_map, f2]; rfl)
      exact .inl (.inl ⟨a, _, i, v, rfl, ry.fz rfl, s.sqL h1, e2, q v F H (PV.same s r2)⟩)
    | _ => cases e
  | str x =>
    cases dy with
    | int i =>
      have e : signAt x i = some t := e
      unfold signAt at e
      split at e
      · rename_i hl
        obtain ⟨c, e1, e⟩ := bind_some e
        cases e
        exact .inl (.inr (.inr ⟨x, i, c, rx.fz rfl, ry.fz rfl, hl, e1, q _ F H (PV.same s rfl)⟩))
      · cases e
    | _ => cases e
  | dct ks ds =>
    have e : ((keyD dy).bind fun k => (dlook ks ds k).bind fun d => some (T.lf d)) = some t := e
    obtain ⟨k, e1, e⟩ := bind_some e
    obtain ⟨d, e2, e⟩ := bind_some e
    cases e
    obtain ⟨a, us, rfl, h1, l, r1⟩ := rx.dct s
    obtain ⟨v, e3, r3⟩ := (dlook_rep k r1 l).1 d e2
    have ey : y = kV k := by
      cases dy with
      | int _ => exact keyD_rep e1 (ry.fz rfl)
      | str _ => exact keyD_rep e1 (ry.fz rfl)
      | _ => cases e1
    exact .inr ⟨a, v, rfl, .inl ⟨_, k, h1, ey, e3.symm⟩, q v F H (PV.same s r3)⟩
  | _ => cases e
theorem se_ix {ma mb : DenO} (hu : X.A.units + 1 < cLine) (ha : SO X a ma) (hb : SO X b mb) (hs : PlainIx b) : SE X (.Subscript a b pos) (dBinO ixD ma mb) := se_ixO (ix_seq.or (ix_dict hu)) rul_ix ha hb hs

/-! ### in, not in -/
def hasD : D → D → Option Bool
  | x, .lst ys => if sh 63 x = true ∧ ys.all (sh 63) = true then some (ys.any fun z => eqv z x) else none
  | x, .tup ys => if sh 63 x = true ∧ ys.all (sh 63) = true then some (ys.any fun z => eqv z x) else none
  | x, .dct ks _ => (keyD x).bind fun k => some (ks.any fun j => decide (j = k))
  | _, _ => none
theorem any_zip {κ : Type} [DecidableEq κ] (k : κ) : ∀ {ks : List κ} {us : List V}, ks.length = us.length → (valV (ks.zip us) k).isSome = ks.any fun j => decide (j = k)
  | [], _, _ => rfl
  | j :: ks, [], l => by cases l
  | j :: ks, u :: us, l => by
    have ih := any_zip k (ks := ks) (us := us) (by simpa using l)
    by_cases e : j = k
    · have : valV ((j :: ks).zip (u :: us)) k = some u := valV_pos e
      rw [this]; simp [e]
    · have : valV ((j :: ks).zip (u :: us)) k = valV (ks.zip us) k := valV_neg e
      rw [this, ih]; simp [e]
def rInAll (K : PySem.W.Frag) (neg : Bool) : R2 := fun x y H Q =>
  (∃ a ys d ds, y = .ref a ∧ (SqL K H a ys ∨ SqT K H a ys) ∧ Dp K H x d ∧ DpAll K H ys ds ∧ SeqAt.shaped d = true ∧ PyData.canLayAll0 ds = true ∧ Q (.bl (if neg then !(ds.any fun z => PyData.eqv z d) else (ds.any fun z => PyData.eqv z d))) H) ∨
  ∃ a o, y = .ref a ∧ DGet H a x o ∧ Q (.bl (if neg then !o.isSome else o.isSome)) H
theorem op_inAll (hu : X.A.units + 65 < cLine) : OpR X (compareOp .In) (rInAll X.K false) := by
  intro pins s σ H x y v u Q I rx ry h
  rcases h with ⟨a, ys, d, ds, rfl, hq, hd, hds, sd, sl, q⟩ | ⟨a, o, rfl, g, q⟩
  · obtain rfl : u = Value.ref a := ry
    obtain ⟨as, r1⟩ := Dp.reads I d x v hd rx
    have room : X.A.units + 1 + min (PyData.depthAll ds) d.depth < cLine := room_in_shaped sd hu
    rcases hq with hq | hq
    · obtain ⟨its, rv, ⟨o, n, ho, hc, _, hdt⟩, _⟩ := I.list hq
      obtain ⟨bs, r2⟩ := Dp.readsAll I ds _ its hds rv
      exact SeqAt.in_list_reads (Reads.list ho hc hdt r2) r1 sl (SeqAt.canLay_of_shaped sd) room ⟨.bl _, H, I, rfl, q⟩
    · obtain ⟨its, rv, ⟨o, ho, hc, n, hdt⟩, _⟩ := I.tuple hq
      obtain ⟨bs, r2⟩ := Dp.readsAll I ds _ its hds rv
      exact SeqAt.in_tuple_reads (Reads.tuple ho hc hdt r2) r1 sl (SeqAt.canLay_of_shaped sd) room ⟨.bl _, H, I, rfl, q⟩
  · obtain rfl : u = Value.ref a := ry
    exact d_in (by omega) I g rx fun s3 I3 => ⟨.bl _, H, I3, rfl, q⟩
theorem op_notInAll (hu : X.A.units + 65 < cLine) : OpR X (compareOp .NotIn) (rInAll X.K true) := by
  intro pins s σ H x y v u Q I rx ry h
  rcases h with ⟨a, ys, d, ds, rfl, hq, hd, hds, sd, sl, q⟩ | ⟨a, o, rfl, g, q⟩
  · obtain rfl : u = Value.ref a := ry
    obtain ⟨as, r1⟩ := Dp.reads I d x v hd rx
    have room : X.A.units + 1 + min (PyData.depthAll ds) d.depth < cLine := room_in_shaped sd hu
    rcases hq with hq | hq
    · obtain ⟨its, rv, ⟨o, n, ho, hc, _, hdt⟩, _⟩ := I.list hq
      obtain ⟨bs, r2⟩ := Dp.readsAll I ds _ its hds rv
      exact SeqAt.notIn_list_reads (Reads.list ho hc hdt r2) r1 sl (SeqAt.canLay_of_shaped sd) room ⟨.bl _, H, I, rfl, q⟩
    · obtain ⟨its, rv, ⟨o, ho, hc, n, hdt⟩, _⟩ := I.tuple hq
      obtain ⟨bs, r2⟩ := Dp.readsAll I ds _ its hds rv
      exact SeqAt.notIn_tuple_reads (Reads.tuple ho hc hdt r2) r1 sl (SeqAt.canLay_of_shaped sd) room ⟨.bl _, H, I, rfl, q⟩
  · obtain rfl : u = Value.ref a := ry
    exact d_notIn (by omega) I g rx fun s3 I3 => ⟨.bl _, H, I3, rfl, q⟩
theorem any_py (x : D) : ∀ ys : List D, ((pys ys).any fun z => PyData.eqv z (py x)) = ys.any fun z => eqv z x
  | [] => rfl
  | y :: ys => by simp only [pys, List.any_cons, eqv_py, any_py x ys]
theorem dps_of {G : Gx} {F H : Hp} (s : Sub F H) {n : Nat} : ∀ {xs : List D} {vs : List V}, xs.all (sh n) = true → RepDs G F xs vs → DpAll G.K H vs (pys xs)
  | [], _, _, r => by cases r; exact .nil
  | x :: xs, _, h, ⟨u, w, e, r1, r2⟩ => by
    subst e
    simp only [List.all_cons, Bool.and_eq_true] at h
    exact .cons (dp_of s n x u h.1 r1) (dps_of s h.2 r2)
theorem lays_of {n : Nat} : ∀ {xs : List D}, xs.all (sh n) = true → PyData.canLayAll0 (pys xs) = true
  | [], _ => rfl
  | x :: xs, h => by
    simp only [List.all_cons, Bool.and_eq_true] at h
    simp only [pys, PyData.canLayAll0, (sh_py n x h.1).1, lays_of h.2, Bool.and_self]
theorem sh_mono : ∀ (n : Nat) (d : D), sh n d = true → sh (n + 1) d = true := by
  intro n
  induction n with
  | zero => intro d h; cases d <;> simp_all [sh]
  | succ n ih =>
    intro d h
    cases d with
    | lst xs => simp only [sh, List.all_eq_true] at h ⊢; exact fun x hx => ih x (h x hx)
    | tup xs => simp only [sh, List.all_eq_true] at h ⊢; exact fun x hx => ih x (h x hx)
    | _ => simp_all [sh]
def hasRul (neg : Bool) (x y : D) : Option T := (hasD x y).bind fun b => some (.lf (.bl (if neg then !b else b)))
theorem sh_fz {n : Nat} {d : D} {G : Gx} {F H : Hp} (s : Sub F H) {v : V} (h : sh n d = true) (r : RepB G F H d v) : Dp G.K H v (py d) := by
  cases d with
  | lst xs =>
    obtain ⟨a, us, rfl, h1, r1⟩ := r.lst s
    cases n with
    | zero => simp [sh] at h
    | succ n => exact .lst (SqL.of h1) (dps_of s (n := n) (by simpa [sh] using h) r1)
  | non => exact dp_of s n _ _ h (r.fz rfl)
  | bl _ => exact dp_of s n _ _ h (r.fz rfl)
  | int _ => exact dp_of s n _ _ h (r.fz rfl)
  | str _ => exact dp_of s n _ _ h (r.fz rfl)
  | tup _ => exact dp_of s n _ _ h (r.fz rfl)
  | _ => cases n <;> simp [sh] at h
theorem rul_in (neg : Bool) : RulB X (rInAll X.K neg) (hasRul neg) := by
  intro F H x y dx dy t Q s rx ry e q
  obtain ⟨b, e1, e⟩ := bind_some e
  cases e
  have fin : ∀ {c : Bool}, c = b → Q (.bl (if neg then !c else c)) H := fun {c} h => by
    subst h
    exact q _ F H (PV.same s rfl)
  cases dy with
  | lst ys =>
    have e1 : (if sh 63 dx = true ∧ ys.all (sh 63) = true then some (ys.any fun z => eqv z dx) else none) = some b := by
      cases dx <;> exact e1
    obtain ⟨⟨c1, c2⟩, rfl⟩ := ite_some e1
    obtain ⟨a, us, rfl, h1, r1⟩ := ry.lst s
    refine .inl ⟨a, us, py dx, pys ys, rfl, .inl (SqL.of h1), sh_fz (G := gx X) s c1 rx, dps_of (G := gx X) s c2 r1, shaped_of (sh_mono _ _ c1), lays_of c2, ?_⟩
    rw [any_py]
    exact fin rfl
  | tup ys =>
    have e1 : (if sh 63 dx = true ∧ ys.all (sh 63) = true then some (ys.any fun z => eqv z dx) else none) = some b := by
      cases dx <;> exact e1
    obtain ⟨⟨c1, c2⟩, rfl⟩ := ite_some e1
    obtain ⟨a, us, o, rfl, h1, _, r1⟩ := ry.fz rfl
    refine .inl ⟨a, us, py dx, pys ys, rfl, .inr (s.rdT h1 _), sh_fz (G := gx X) s c1 rx, dps_of (G := gx X) s c2 r1, shaped_of (sh_mono _ _ c1), lays_of c2, ?_⟩
    rw [any_py]
    exact fin rfl
  | dct ks ds =>
    have e1 : ((keyD dx).bind fun k => some (ks.any fun j => decide (j = k))) = some b := by
      cases dx <;> exact e1
    obtain ⟨k, e2, e1⟩ := bind_some e1
    obtain ⟨a, us, rfl, h1, l, r1⟩ := ry.dct s
    have ex : x = kV k := by
      cases dx with
      | int _ => exact keyD_rep e2 (rx.fz rfl)
      | str _ => exact keyD_rep e2 (rx.fz rfl)
      | _ => cases e2
    exact .inr ⟨a, _, rfl, .inl ⟨_, k, h1, ex, rfl⟩, fin ((any_zip k l).trans (Option.some.inj e1))⟩
  | _ => cases dx <;> cases e1
end VI

set_option Elab.async false
set_option linter.all false
set_option maxRecDepth 100000
set_option maxHeartbeats 4000000
/-! VE: arguments, calls of built-ins -/
namespace VI
open PySem PySem.Spec L2
open PyProof.Rows hiding St
variable {X : Cx} {a b e : Expr} {es : List Expr} {pos : Pos}

def RepBs (G : Gx) (F H : Hp) : List D → List V → Prop
  | [], vs => vs = []
  | d :: ds, vs => ∃ v r, vs = v :: r ∧ RepB G F H d v ∧ RepBs G F H ds r
def LReps (G : Gx) (F : Hp) (ρ : En) (σ : St) : List LV → List V → Prop
  | [], vs => vs = []
  | l :: ls, vs => ∃ v r, vs = v :: r ∧ LRep G F ρ σ l v ∧ LReps G F ρ σ ls r
theorem LRep.le {G : Gx} {F F' : Hp} {ρ ρ' : En} {σ : St} {l : LV} {v : V} (h : LRep G F ρ σ l v) (le : Le F F') : LRep G F' ρ' σ l v := by
  cases l with
  | sl i => exact h
  | va d => exact RepD.le le h
def atAll (ρ : En) : List LV → Option (List D)
  | [] => some []
  | l :: ls => (l.at_ ρ).bind fun d => (atAll ρ ls).bind fun ds => some (d :: ds)
theorem LReps.now {G : Gx} {F F' H' : Hp} {ρ ρ' : En} {σ : St} (le : Le F F') (R : Rel G F' H' ρ' σ) : ∀ {ls : List LV} {vs : List V} {ds : List D}, LReps G F ρ σ ls vs → atAll ρ' ls = some ds → RepBs G F' H' ds vs
  | [], _, _, h, e => by cases e; exact h
  | l :: ls, _, _, ⟨v, r, ev, h1, h2⟩, e => by
    obtain ⟨d, e1, e⟩ := bind_some e
    obtain ⟨ds, e2, e⟩ := bind_some e
    cases e
    exact ⟨v, r, ev, h1.now le R e1, LReps.now le R h2 e2⟩
abbrev DenL := En → Option (List LV × En)
def SL (X : Cx) (es : List Expr) (m : DenL) : Prop := ∃ te, PA X es te ∧ ∀ (F H : Hp) (ρ : En) (σ : St) (ls : List LV) (ρ' : En) (Q : List V → Hp → Prop), Rel (gx X) F H ρ σ → m ρ = some (ls, ρ') →
  (∀ vs F' H', PoN (gx X) F H ρ σ F' H' ρ' → LReps (gx X) F' ρ' σ ls vs → Q vs H') → te σ H Q
def dNilL : DenL := fun ρ => some ([], ρ)
def dConsL (m : DenO) (r : DenL) : DenL := fun ρ => (m ρ).bind fun p => (r p.2).bind fun q => some (p.1 :: q.1, q.2)
theorem sl_nil : SL X [] dNilL := ⟨_, pa_nil, fun F H ρ σ ls ρ' Q R e q => by cases e; exact q [] F H (.refl R) rfl⟩
theorem sl_cons {m : DenO} {r : DenL} (ha : SO X a m) (hr : SL X es r) (hs : starEach (a :: es) X.env = (false, eval a X.env) :: starEach es X.env) : SL X (a :: es) (dConsL m r) := by
  obtain ⟨ta, pa, ka⟩ := ha
  obtain ⟨tb, pb, kb⟩ := hr
  refine ⟨_, pa_cons pa pb hs, fun F H ρ σ ls ρ' Q R e q => ?_⟩
  obtain ⟨⟨l, ρ1⟩, e1, e⟩ := bind_some e
  obtain ⟨⟨ls', ρ2⟩, e2, e⟩ := bind_some e
  cases e
  refine ka F H ρ σ l ρ1 _ R e1 fun v F1 H1 p1 n1 => ?_
  refine kb F1 H1 ρ1 σ ls' _ _ p1.rel e2 fun vs F2 H2 p2 n2 => ?_
  exact q (v :: vs) F2 H2 (p1.tr p2) ⟨v, vs, rfl, n1.le p2.st.le, n2⟩

def CallB (X : Cx) (f : Value) (g : List D → Option T) : Prop := ∃ r, CallR X f r ∧ ∀ (F H : Hp) (xs : List V) (ds : List D) (t : T) (Q : VK), Sub F H → RepBs (gx X) F H ds xs → g ds = some t →
  (∀ v F' H', PV (gx X) F H t v F' H' → Q v H') → r xs H Q
theorem CallB.or {f : Value} {g g1 g2 : List D → Option T} (h1 : CallB X f g1) (h2 : CallB X f g2) (h : ∀ x t, g x = some t → g1 x = some t ∨ g2 x = some t) : CallB X f g := by
  obtain ⟨r1, p1, k1⟩ := h1
  obtain ⟨r2, p2, k2⟩ := h2
  refine ⟨_, CallR.or p1 p2, fun F H x dx t Q s rx e q => ?_⟩
  rcases h dx t e with z | z
  · exact .inl (k1 F H x dx t Q s rx z q)
  · exact .inr (k2 F H x dx t Q s rx z q)
def dCB (g : List D → Option T) (m : DenL) : Den := fun ρ => (m ρ).bind fun p => (atAll p.2 p.1).bind fun ds => (g ds).bind fun t => some (t, p.2)
theorem run_cb {g : List D → Option T} {m : DenL} {r : List V → Hp → VK → Prop} {te : TA}
    (hr : ∀ (F H : Hp) (xs : List V) (ds : List D) (t : T) (Q : VK), Sub F H → RepBs (gx X) F H ds xs → g ds = some t → (∀ v F' H', PV (gx X) F H t v F' H' → Q v H') → r xs H Q)
    (k : ∀ (F H : Hp) (ρ : En) (σ : St) (ls : List LV) (ρ' : En) (Q : List V → Hp → Prop), Rel (gx X) F H ρ σ → m ρ = some (ls, ρ') → (∀ vs F' H', PoN (gx X) F H ρ σ F' H' ρ' → LReps (gx X) F' ρ' σ ls vs → Q vs H') → te σ H Q)
    (F H : Hp) (ρ : En) (σ : St) (t : T) (ρ' : En) (Q : VK) (R : Rel (gx X) F H ρ σ) (e : dCB g m ρ = some (t, ρ')) (q : ∀ v F' H', PoE (gx X) F H ρ σ t v F' H' ρ' → Q v H') : tCB r te σ H Q := by
  obtain ⟨⟨ls, ρ1⟩, e1, e⟩ := bind_some e
  obtain ⟨ds, e2, e⟩ := bind_some e
  obtain ⟨t', e3, e⟩ := bind_some e
  cases e
  refine k F H ρ σ ls _ _ R e1 fun vs F1 H1 p1 n1 => ?_
  exact hr F1 H1 vs ds t _ p1.rel.sub (n1.now (Le.refl _) p1.rel e2) e3 fun w F3 H3 p3 => q w F3 H3 (p1.trE (p3.poE p1.rel))
theorem se_callB {id : String} {x : Str} {p : Pos} {g : List D → Option T} {m : DenL} (hc : CallB X (.builtin id) g) (hg : Gl X x) (hm : X.mg x = none) (hv : bootBuiltins x = some (.builtin id)) (ha : SL X (a :: es) m) (hn : x ≠ "__name__") (hdb : (x == ("__debug__" : Str)) = false)
    (he : starEach (a :: es) X.env = (false, eval a X.env) :: starEach es X.env) (hpl : (backTo pos (starEach es X.env)).any (·.1) = false) : SE X (.Call (.Name x p) (a :: es) [] pos) (dCB g m) := by
  obtain ⟨r, hr, k⟩ := hc
  obtain ⟨te, pa, ka⟩ := ha
  exact ⟨_, pe_callB hr hg hm hv pa hn hdb he hpl, run_cb k ka⟩
theorem se_callTy {T' : String} {x : Str} {p : Pos} {g : List D → Option T} {m : DenL} (hc : CallB X (.type T') g) (hg : Gl X x) (hm : X.mg x = none) (hv : bootBuiltins x = some (.type T')) (ha : SL X (a :: es) m) (hn : x ≠ "__name__") (hdb : (x == ("__debug__" : Str)) = false)
    (he : starEach (a :: es) X.env = (false, eval a X.env) :: starEach es X.env) (hpl : (backTo pos (starEach es X.env)).any (·.1) = false) : SE X (.Call (.Name x p) (a :: es) [] pos) (dCB g m) := by
  obtain ⟨r, hr, k⟩ := hc
  obtain ⟨te, pa, ka⟩ := ha
  exact ⟨_, pe_callTy hr hg hm hv pa hn hdb he hpl, run_cb k ka⟩

/-! ### one argument, two -/
def on1 (g : D → Option T) : List D → Option T
  | [d] => g d
  | _ => none
def on2 (g : D → D → Option T) : List D → Option T
  | [d, e] => g d e
  | _ => none
theorem on1_some {G : Gx} {F H : Hp} {g : D → Option T} {ds : List D} {t : T} {xs : List V} (e : on1 g ds = some t) (r : RepBs G F H ds xs) : ∃ d v, ds = [d] ∧ xs = [v] ∧ RepB G F H d v ∧ g d = some t := by
  unfold on1 at e
  split at e
  · obtain ⟨v, w, rfl, r1, rfl⟩ := r
    exact ⟨_, v, rfl, rfl, r1, e⟩
  · cases e
theorem on2_some {G : Gx} {F H : Hp} {g : D → D → Option T} {ds : List D} {t : T} {xs : List V} (e : on2 g ds = some t) (r : RepBs G F H ds xs) : ∃ d f v u, ds = [d, f] ∧ xs = [v, u] ∧ RepB G F H d v ∧ RepB G F H f u ∧ g d f = some t := by
  unfold on2 at e
  split at e
  · obtain ⟨v, w, rfl, r1, u, w2, rfl, r2, rfl⟩ := r
    exact ⟨_, _, v, u, rfl, rfl, r1, r2, e⟩
  · cases e

/-! ### len -/
def lenD : D → Option T
  | .lst xs => some (.lf (.int xs.length))
  | .tup xs => some (.lf (.int xs.length))
  | .scr ns => some (.lf (.int ns.length))
  | .str x => if x.length ≤ sizeLine then some (.lf (.int x.length)) else none
  | .dct ks _ => some (.lf (.int ks.length))
  | _ => none
theorem call_lenAll : CallR X (.builtin "len") (fun xs H Q => ∃ x n, xs = [x] ∧ (LenV X.K x H n ∨ ∃ a kvs, x = .ref a ∧ Rd H a (.dK kvs) ∧ n = kvs.length) ∧ Q (.int n) H) := by
  intro pins s σ H xs us Q I r h
  obtain ⟨x, n, rfl, hx, q⟩ := h
  rcases hx with hx | ⟨a, kvs, rfl, hx, rfl⟩
  · exact call_len pins s σ H [x] us Q I r ⟨x, n, rfl, hx, q⟩
  · obtain rfl := Vals.ref1 r
    exact d_len I hx fun t s3 I3 => ⟨.int _, H, I3, ⟨_, rfl⟩, q⟩
theorem cb_len : CallB X (.builtin "len") (on1 lenD) := by
  refine ⟨_, call_lenAll, fun F H xs ds t Q s r e q => ?_⟩
  obtain ⟨d, v, rfl, rfl, rd, e⟩ := on1_some e r
  cases d with
  | lst ds =>
    cases e
    obtain ⟨a, us, rfl, h1, r1⟩ := rd.lst s
    exact ⟨_, _, rfl, .inl (.inl ⟨us, SqL.of h1, r1.length⟩), q _ F H (PV.same s rfl)⟩
  | tup ds =>
    cases e
    obtain ⟨a, us, o, rfl, h1, _, r1⟩ := rd.fz rfl
    exact ⟨_, _, rfl, .inl (.inr ⟨us, s.rdT h1 _, r1.length⟩), q _ F H (PV.same s rfl)⟩
  | scr ns =>
    cases e
    obtain ⟨a, rfl, h1⟩ := rd.fz rfl
    exact ⟨_, _, rfl, .inl (.inl ⟨_, s.sqL h1, (List.length_map _).symm⟩), q _ F H (PV.same s rfl)⟩
  | str x =>
    obtain ⟨c, rfl⟩ := ite_some e
    obtain rfl := rd.fz rfl
    exact ⟨_, _, rfl, .inl ⟨c, rfl⟩, q _ F H (PV.same s rfl)⟩
  | dct ks ds =>
    cases e
    obtain ⟨a, us, rfl, h1, l, r1⟩ := rd.dct s
    exact ⟨_, _, rfl, .inr ⟨a, _, rfl, h1, by rw [List.length_zip, l, Nat.min_self]⟩, q _ F H (PV.same s rfl)⟩
  | _ => cases e

/-! ### abs, int, max, min -/
def absD : D → Option T
  | .int i => some (.lf (.int (if i < 0 then -i else i)))
  | _ => none
theorem cb_abs : CallB X (.builtin "abs") (on1 absD) := by
  refine ⟨_, call_abs, fun F H xs ds t Q s r e q => ?_⟩
  obtain ⟨d, v, rfl, rfl, rd, e⟩ := on1_some e r
  cases d with
  | int i => cases e; obtain rfl := rd.fz rfl; exact ⟨i, rfl, q _ F H (PV.same s rfl)⟩
  | _ => cases e
def intOfD : D → Option T
  | .int i => some (.lf (.int i))
  | .bl k => some (.lf (.int (if k then 1 else 0)))
  | _ => none
theorem cb_int : CallB X (.type "int") (on1 intOfD) := by
  refine ⟨_, call_int1, fun F H xs ds t Q s r e q => ?_⟩
  obtain ⟨d, v, rfl, rfl, rd, e⟩ := on1_some e r
  cases d with
  | int i => cases e; obtain rfl := rd.fz rfl; exact .inl ⟨i, rfl, q _ F H (PV.same s rfl)⟩
  | bl i => cases e; obtain rfl := rd.fz rfl; exact .inr ⟨i, rfl, q _ F H (PV.same s rfl)⟩
  | _ => cases e
def asInts : List D → Option (List Int)
  | [] => some []
  | .int i :: r => (asInts r).bind fun ns => some (i :: ns)
  | _ => none
theorem asInts_eq : ∀ {ds : List D} {ns : List Int}, asInts ds = some ns → ds = ns.map D.int
  | [], _, e => by cases e; rfl
  | .int i :: r, _, e => by
    obtain ⟨ms, e1, e⟩ := bind_some e
    cases e
    rw [asInts_eq e1]; rfl
theorem asInts_map (ns : List Int) : asInts (ns.map D.int) = some ns := by
  induction ns with
  | nil => rfl
  | cons n ns ih => simp only [List.map_cons, asInts, ih]; rfl
def greatest : List Int → Option Int
  | [] => none
  | n :: ns => some (ns.foldl (fun a b => if b > a then b else a) n)
def least : List Int → Option Int
  | [] => none
  | n :: ns => some (ns.foldl (fun a b => if b < a then b else a) n)
theorem foldl_great : ∀ (ns : List Int) (n : Int), (ns.foldl (fun a b => if b > a then b else a) n ∈ n :: ns) ∧ ∀ y ∈ n :: ns, y ≤ ns.foldl (fun a b => if b > a then b else a) n
  | [], n => by simp
  | m :: ns, n => by
    obtain ⟨h1, h2⟩ := foldl_great ns (if m > n then m else n)
    simp only [List.foldl_cons]
    constructor
    · rcases List.mem_cons.mp h1 with h | h
      · rw [h]; split <;> simp
      · simp [h]
    · intro y hy
      have ge : (if m > n then m else n) ≤ ns.foldl (fun a b => if b > a then b else a) (if m > n then m else n) := h2 _ List.mem_cons_self
      rcases List.mem_cons.mp hy with rfl | hy
      · refine Int.le_trans ?_ ge; split <;> omega
      · rcases List.mem_cons.mp hy with rfl | hy
        · refine Int.le_trans ?_ ge; split <;> omega
        · exact h2 y (List.mem_cons_of_mem _ hy)
theorem foldl_least : ∀ (ns : List Int) (n : Int), (ns.foldl (fun a b => if b < a then b else a) n ∈ n :: ns) ∧ ∀ y ∈ n :: ns, ns.foldl (fun a b => if b < a then b else a) n ≤ y
  | [], n => by simp
  | m :: ns, n => by
    obtain ⟨h1, h2⟩ := foldl_least ns (if m < n then m else n)
    simp only [List.foldl_cons]
    constructor
    · rcases List.mem_cons.mp h1 with h | h
      · rw [h]; split <;> simp
      · simp [h]
    · intro y hy
      have ge : ns.foldl (fun a b => if b < a then b else a) (if m < n then m else n) ≤ (if m < n then m else n) := h2 _ List.mem_cons_self
      rcases List.mem_cons.mp hy with rfl | hy
      · refine Int.le_trans ge ?_; split <;> omega
      · rcases List.mem_cons.mp hy with rfl | hy
        · refine Int.le_trans ge ?_; split <;> omega
        · exact h2 y (List.mem_cons_of_mem _ hy)
def maxL : List D → Option T
  | [.lst ds] => (asInts ds).bind fun ns => (greatest ns).bind fun m => some (.lf (.int m))
  | [.int i, .int j] => some (.lf (.int (if j > i then j else i)))
  | _ => none
def minL : List D → Option T
  | [.lst ds] => (asInts ds).bind fun ns => (least ns).bind fun m => some (.lf (.int m))
  | [.int i, .int j] => some (.lf (.int (if j < i then j else i)))
  | _ => none
theorem cb_max (hc : X.calm = true) : CallB X (.builtin "max") maxL := by
  refine ⟨_, CallR.or (cr_max hc) (call_max2 hc), fun F H xs ds t Q s r e q => ?_⟩
  unfold maxL at e
  split at e
  · obtain ⟨v, w, rfl, r1, rfl⟩ := r
    obtain ⟨ns, e1, e⟩ := bind_some e
    obtain ⟨m, e2, e⟩ := bind_some e
    cases e
    obtain ⟨a, us, rfl, h1, r2⟩ := r1.lst s
    rw [asInts_eq e1] at r2
    have e3 := r2.ints_inv
    subst e3
    refine .inl ⟨a, ns, rfl, SqL.of h1, ?_, fun m' hm hle => ?_⟩
    · cases ns with
      | nil => cases e2
      | cons _ _ => simp
    · cases ns with
      | nil => cases e2
      | cons n ns =>
        cases e2
        obtain ⟨g1, g2⟩ := foldl_great ns n
        have : m' = ns.foldl (fun a b => if b > a then b else a) n := Int.le_antisymm (g2 _ hm) (hle _ g1)
        subst this
        exact q _ F H (PV.same s rfl)
  · obtain ⟨v, w, rfl, r1, u, w2, rfl, r2, rfl⟩ := r
    cases e
    obtain rfl := r1.fz rfl
    obtain rfl := r2.fz rfl
    exact .inr ⟨_, _, rfl, q _ F H (PV.same s rfl)⟩
  · cases e
theorem cb_min (hc : X.calm = true) : CallB X (.builtin "min") minL := by
  refine ⟨_, CallR.or (cr_min hc) (call_min2 hc), fun F H xs ds t Q s r e q => ?_⟩
  unfold minL at e
  split at e
  · obtain ⟨v, w, rfl, r1, rfl⟩ := r
    obtain ⟨ns, e1, e⟩ := bind_some e
    obtain ⟨m, e2, e⟩ := bind_some e
    cases e
    obtain ⟨a, us, rfl, h1, r2⟩ := r1.lst s
    rw [asInts_eq e1] at r2
    have e3 := r2.ints_inv
    subst e3
    refine .inl ⟨a, ns, rfl, SqL.of h1, ?_, fun m' hm hle => ?_⟩
    · cases ns with
      | nil => cases e2
      | cons _ _ => simp
    · cases ns with
      | nil => cases e2
      | cons n ns =>
        cases e2
        obtain ⟨g1, g2⟩ := foldl_least ns n
        have : m' = ns.foldl (fun a b => if b < a then b else a) n := Int.le_antisymm (hle _ g1) (g2 _ hm)
        subst this
        exact q _ F H (PV.same s rfl)
  · obtain ⟨v, w, rfl, r1, u, w2, rfl, r2, rfl⟩ := r
    cases e
    obtain rfl := r1.fz rfl
    obtain rfl := r2.fz rfl
    exact .inr ⟨_, _, rfl, q _ F H (PV.same s rfl)⟩
  · cases e
def sumD : D → Option T
  | .lst ds => (asInts ds).bind fun ns => some (.lf (.int ns.sum))
  | _ => none
theorem cb_sum (hc : X.calm = true) : CallB X (.builtin "sum") (on1 sumD) := by
  refine ⟨_, cr_sum hc, fun F H xs ds t Q s r e q => ?_⟩
  obtain ⟨d, v, rfl, rfl, rd, e⟩ := on1_some e r
  cases d with
  | lst ds =>
    obtain ⟨ns, e1, e⟩ := bind_some e
    cases e
    obtain ⟨a, us, rfl, h1, r2⟩ := rd.lst s
    rw [asInts_eq e1] at r2
    have e3 := r2.ints_inv
    subst e3
    exact ⟨a, ns, rfl, SqL.of h1, q _ F H (PV.same s rfl)⟩
  | _ => cases e
def asBls : List D → Option (List Bool)
  | [] => some []
  | .bl i :: r => (asBls r).bind fun ns => some (i :: ns)
  | _ => none
theorem asBls_eq : ∀ {ds : List D} {ns : List Bool}, asBls ds = some ns → ds = ns.map D.bl
  | [], _, e => by cases e; rfl
  | .bl i :: r, _, e => by
    obtain ⟨ms, e1, e⟩ := bind_some e
    cases e
    rw [asBls_eq e1]; rfl
theorem asBls_map (ns : List Bool) : asBls (ns.map D.bl) = some ns := by
  induction ns with
  | nil => rfl
  | cons n ns ih => simp only [List.map_cons, asBls, ih]; rfl
def allD : D → Option T
  | .lst ds => (asBls ds).bind fun ns => some (.lf (.bl (ns.all id)))
  | _ => none
def anyD : D → Option T
  | .lst ds => (asBls ds).bind fun ns => some (.lf (.bl (ns.any id)))
  | _ => none
theorem cb_all (hc : X.calm = true) : CallB X (.builtin "all") (on1 allD) := by
  refine ⟨_, cr_all hc, fun F H xs ds t Q s r e q => ?_⟩
  obtain ⟨d, v, rfl, rfl, rd, e⟩ := on1_some e r
  cases d with
  | lst ds =>
    obtain ⟨ns, e1, e⟩ := bind_some e
    cases e
    obtain ⟨a, us, rfl, h1, r2⟩ := rd.lst s
    rw [asBls_eq e1] at r2
    have e3 := r2.bls_inv
    subst e3
    exact ⟨a, ns, rfl, SqL.of h1, q _ F H (PV.same s rfl)⟩
  | _ => cases e
theorem cb_any (hc : X.calm = true) : CallB X (.builtin "any") (on1 anyD) := by
  refine ⟨_, cr_any hc, fun F H xs ds t Q s r e q => ?_⟩
  obtain ⟨d, v, rfl, rfl, rd, e⟩ := on1_some e r
  cases d with
  | lst ds =>
    obtain ⟨ns, e1, e⟩ := bind_some e
    cases e
    obtain ⟨a, us, rfl, h1, r2⟩ := rd.lst s
    rw [asBls_eq e1] at r2
    have e3 := r2.bls_inv
    subst e3
    exact ⟨a, ns, rfl, SqL.of h1, q _ F H (PV.same s rfl)⟩
  | _ => cases e

/-! ### range, list, tuple -/
def rngN (a b c : Int) : Nat := (Builtin.Range.rangeSize a b c).toNat
def rngI (a c : Int) (n : Nat) : List Int := (List.range n).map fun i => a + (i : Nat) * c
instance (a b c : Int) (n : Nat) : Decidable (RgC a b c n) := by unfold RgC; infer_instance
def rangeD : List D → Option T
  | [.int b] => if RgC 0 b 1 (rngN 0 b 1) then some (.lf (.rng 0 b 1 (rngN 0 b 1))) else none
  | [.int a, .int b] => if RgC a b 1 (rngN a b 1) then some (.lf (.rng a b 1 (rngN a b 1))) else none
  | [.int a, .int b, .int c] => if RgC a b c (rngN a b c) then some (.lf (.rng a b c (rngN a b c))) else none
  | _ => none
def rRange : List V → Hp → VK → Prop := fun vs H Q => ∃ a b c, (vs = [.int b] ∧ a = 0 ∧ c = 1 ∨ vs = [.int a, .int b] ∧ c = 1 ∨ vs = [.int a, .int b, .int c] ∧ c ≠ 0 ∧ c.natAbs < 1073741824) ∧
  ∀ p, H p = none → Q (.ref p) (upd H p (rgO p a b c))
theorem rgO_ok {P : Program} {w : World} {H : Hp} (h : Heap) (a b c : Int) (t u v : Tok) : ObjOk P w H (h.push { cls := .type "range", data := .fields #[.int a t, .int b u, .int c v] }) h.objs.size (rgO h.objs.size a b c) :=
  ⟨⟨t, u, v, IsRange.new _ _ _ _ _ _ _⟩, ⟨_, IsRange.new _ _ _ _ _ _ _⟩, fun _ _ ⟨t, u, v, e⟩ k => ⟨t, u, v, k _ e⟩⟩
theorem cr_range : CallR X (.type "range") rRange := by
  intro pins s σ H vs us Q I r h
  obtain ⟨a, b, c, hv, q⟩ := h
  have fin : ∀ (t u v : Tok) (k : Nat), EP X pins σ Q (.ref s.heap.objs.size) { s with heap := s.heap.push { cls := .type "range", data := .fields #[.int a t, .int b u, .int c v] }, toks := k } := fun t u v k =>
    ⟨.ref s.heap.objs.size, upd H s.heap.objs.size (rgO s.heap.objs.size a b c), I.laid (t' := k) (fun b o e => Heap.get?_push_of_some _ e) (Nat.le_refl _) (rgO_ok _ _ _ _ _ _ _), rfl, q _ I.fresh⟩
  rcases hv with ⟨rfl, rfl, rfl⟩ | ⟨rfl, rfl⟩ | ⟨rfl, c0, c1⟩
  · obtain ⟨u, rfl, r1⟩ := Vals.one r
    obtain ⟨t, rfl⟩ := r1
    exact call_range_1 (fin _ _ _ _)
  · obtain ⟨t, u, rfl⟩ := Vals.int2 r
    exact call_range_2 (fin _ _ _ _)
  · cases r with
    | cons r1 r =>
      obtain ⟨t, rfl⟩ := r1
      obtain ⟨u, v, rfl⟩ := Vals.int2 r
      exact call_range_3 c0 (fin _ _ _ _) (.inl (PyProof.noPylong_small c1))
theorem PV.rng {G : Gx} {F H : Hp} {a b c : Int} {n : Nat} {p : Addr} (s : Sub F H) (h : H p = none) (k : RgC a b c n) : PV G F H (.lf (.rng a b c n)) (.ref p) (upd F p (rgO p a b c)) (upd H p (rgO p a b c)) := by
  have hf := s.no h
  refine ⟨upd_le hf, (s.new h).fz upd_same, upd_le h, fun a z => ?_, ⟨p, rfl, upd_same, k⟩, fun _ o => nomatch o⟩
  by_cases e : a = p
  · subst e; exact .inr h
  · rw [upd_ne e] at z; exact .inl z
theorem cb_range : CallB X (.type "range") rangeD := by
  refine ⟨_, cr_range, fun F H xs ds t Q s r e q => ?_⟩
  unfold rangeD at e
  split at e
  · obtain ⟨v, w, rfl, r1, rfl⟩ := r
    obtain ⟨c, rfl⟩ := ite_some e
    obtain rfl := r1.fz rfl
    exact ⟨0, _, 1, .inl ⟨rfl, rfl, rfl⟩, fun p hp => q _ _ _ (PV.rng s hp c)⟩
  · obtain ⟨v, w, rfl, r1, u, w2, rfl, r2, rfl⟩ := r
    obtain ⟨c, rfl⟩ := ite_some e
    obtain rfl := r1.fz rfl
    obtain rfl := r2.fz rfl
    exact ⟨_, _, 1, .inr (.inl ⟨rfl, rfl⟩), fun p hp => q _ _ _ (PV.rng s hp c)⟩
  · obtain ⟨v, w, rfl, r1, u, w2, rfl, r2, z, w3, rfl, r3, rfl⟩ := r
    obtain ⟨c, rfl⟩ := ite_some e
    obtain rfl := r1.fz rfl
    obtain rfl := r2.fz rfl
    obtain rfl := r3.fz rfl
    exact ⟨_, _, _, .inr (.inr ⟨rfl, c.1, c.2.1⟩), fun p hp => q _ _ _ (PV.rng s hp c)⟩
  · cases e
theorem vals_rngI {a c : Int} {n : Nat} {acc : Array Value} (h : ItemsOf (fun i v => ∃ t, v = .int (a + i * c) t) acc n) : Vals ((rngI a c n).map V.int) acc.toList := by
  have e : acc.toList.length = n := by rw [Array.length_toList]; exact h.1
  unfold rngI
  rw [← e, List.map_map]
  refine vals_of_get acc.toList _ fun j u hj => ?_
  obtain ⟨t, rfl⟩ := h.2 j u (by rw [← hj, Array.getElem?_toList])
  exact ⟨t, rfl⟩
def rSeqRg : List V → Hp → VK → Prop := fun vs H Q => ∃ p a b c n, vs = [.ref p] ∧ H p = some (rgO p a b c) ∧ RgC a b c n ∧ n ≤ 2 ^ 24 ∧
  ∀ q, H q = none → Q (.ref q) (upd H q (.lst ((rngI a c n).map V.int)))
def rTupRg : List V → Hp → VK → Prop := fun vs H Q => ∃ p a b c n, vs = [.ref p] ∧ H p = some (rgO p a b c) ∧ RgC a b c n ∧ n ≤ 2 ^ 24 ∧ NewT ((rngI a c n).map V.int) H Q
theorem cr_listRg (hc : X.calm = true) : CallR X (.type "list") rSeqRg := by
  intro pins s σ H vs us Q I r h
  obtain ⟨p, a, b, c, n, rfl, hp, ⟨_, _, k1, k2⟩, hn, q⟩ := h
  obtain rfl := Vals.ref1 r
  obtain ⟨⟨t, u, v, hr⟩, _⟩ := I.hok p _ hp
  refine call_list_range (I.ok.hd hc) hr k1 k2 hn fun h' tk acc c' hk e' hi => ?_
  refine ⟨.ref s.heap.objs.size, upd H s.heap.objs.size (.lst ((rngI a c n).map V.int)), I.laid hk (Nat.le_refl _) (show ObjOk X.prog X.w _ _ _ (.lst _) from ⟨?_, acc.toList, c', vals_rngI hi, ?_⟩), rfl, q _ I.fresh⟩
  · rw [List.length_map, rngI, List.length_map, List.length_range, sizeLine_eq]; omega
  · rw [Array.toArray_toList]; exact e'
theorem cr_tupRg (hc : X.calm = true) : CallR X (.type "tuple") rTupRg := by
  intro pins s σ H vs us Q I r h
  obtain ⟨p, a, b, c, n, rfl, hp, ⟨_, _, k1, k2⟩, hn, q⟩ := h
  obtain rfl := Vals.ref1 r
  obtain ⟨⟨t, u, v, hr⟩, _⟩ := I.hok p _ hp
  refine call_tuple_range (I.ok.hd hc) hr k1 k2 hn fun h' tk acc hk hi => ?_
  have e := ep_tup (t' := tk) (s := { s with heap := h', toks := tk }) (I.kept (t' := tk) hk) (vals_rngI hi) (by rw [List.length_map, rngI, List.length_map, List.length_range, sizeLine_eq]; omega) q
  rw [Array.toArray_toList] at e
  exact e
def listD : D → Option T
  | .lst xs => some (.lst xs)
  | .tup xs => some (.lst xs)
  | .scr ns => some (.lst (ns.map D.int))
  | .rng a b c n => if n ≤ 2 ^ 24 then some (.lst ((rngI a c n).map D.int)) else none
  | _ => none
def tupleD : D → Option T
  | .lst xs => some (.lf (.tup xs))
  | .tup xs => some (.lf (.tup xs))
  | .rng a b c n => if n ≤ 2 ^ 24 then some (.lf (.tup ((rngI a c n).map D.int))) else none
  | _ => none
theorem cb_list (hc : X.calm = true) : CallB X (.type "list") (on1 listD) := by
  refine ⟨_, CallR.or call_list_of (cr_listRg hc), fun F H xs ds t Q s r e q => ?_⟩
  obtain ⟨d, v, rfl, rfl, rd, e⟩ := on1_some e r
  cases d with
  | lst ds =>
    cases e
    obtain ⟨a, us, rfl, h1, r2⟩ := rd.lst s
    exact .inl ⟨a, us, rfl, .inl (SqL.of h1), fun p hp => q _ _ _ (PV.lst s r2 hp)⟩
  | tup ds =>
    cases e
    obtain ⟨a, us, o, rfl, h1, _, r2⟩ := rd.fz rfl
    exact .inl ⟨a, us, rfl, .inr (s.rdT h1 _), fun p hp => q _ _ _ (PV.lst s r2 hp)⟩
  | scr ns =>
    cases e
    obtain ⟨a, rfl, h1⟩ := rd.fz rfl
    exact .inl ⟨a, _, rfl, .inl (s.sqL h1), fun p hp => q _ _ _ (PV.lst s RepDs.ints hp)⟩
  | rng a b c n =>
    obtain ⟨hn, rfl⟩ := ite_some e
    obtain ⟨p, rfl, h1, k⟩ := rd.fz rfl
    exact .inr ⟨p, a, b, c, n, rfl, s.ext h1, k, hn, fun p hp => q _ _ _ (PV.lst s RepDs.ints hp)⟩
  | _ => cases e
theorem cb_tuple (hc : X.calm = true) : CallB X (.type "tuple") (on1 tupleD) := by
  refine ⟨_, CallR.or cr_tupleF (cr_tupRg hc), fun F H xs ds t Q s r e q => ?_⟩
  obtain ⟨d, v, rfl, rfl, rd, e⟩ := on1_some e r
  cases d with
  | lst ds =>
    cases e
    obtain ⟨a, us, rfl, h1, r2⟩ := rd.lst s
    exact .inl ⟨a, us, rfl, .inl ⟨SqL.of h1, PV.newT s r2 q⟩⟩
  | tup ds =>
    cases e
    have rd' := rd.fz rfl
    obtain ⟨a, us, o, rfl, h1, _, r2⟩ := id rd'
    exact .inl ⟨a, us, rfl, .inr ⟨s.rdT h1 _, q _ F H (PV.same s rd')⟩⟩
  | rng a b c n =>
    obtain ⟨hn, rfl⟩ := ite_some e
    obtain ⟨p, rfl, h1, k⟩ := rd.fz rfl
    exact .inr ⟨p, a, b, c, n, rfl, s.ext h1, k, hn, PV.newT s RepDs.ints q⟩
  | _ => cases e
end VI

set_option Elab.async false
set_option linter.all false
set_option maxRecDepth 100000
set_option maxHeartbeats 4000000
/-! VF: displays, tests, slices -/
namespace VI
open PySem PySem.Spec L2
open PyProof.Rows hiding St
variable {X : Cx} {a b c e : Expr} {es : List Expr} {pos : Pos}

theorem PV.bl {G : Gx} {F H : Hp} (s : Sub F H) (b : Bool) : PV G F H (.lf (.bl b)) (.bl b) F H := PV.same s rfl

/-! ### argument lists handed out -/
def dNilA : DenA := fun ρ => some ([], ρ)
def dConsA (m : Den) (r : DenA) : DenA := fun ρ => (dD m ρ).bind fun p => (r p.2).bind fun q => some (p.1 :: q.1, q.2)
theorem sa_nil : SA X [] dNilA := ⟨_, pa_nil, fun F H ρ σ ls ρ' Q R e q => by cases e; exact q [] F H ⟨Stp.refl, R, rfl⟩⟩
theorem sa_cons {m : Den} {r : DenA} (ha : SE X a m) (hr : SA X es r) (hs : starEach (a :: es) X.env = (false, eval a X.env) :: starEach es X.env) : SA X (a :: es) (dConsA m r) := by
  obtain ⟨ta, pa, ka⟩ := ha.d
  obtain ⟨tb, pb, kb⟩ := hr
  refine ⟨_, pa_cons pa pb hs, fun F H ρ σ ls ρ' Q R e q => ?_⟩
  obtain ⟨⟨d, ρ1⟩, e1, e⟩ := bind_some e
  obtain ⟨⟨ds, ρ2⟩, e2, e⟩ := bind_some e
  cases e
  refine ka F H ρ σ d ρ1 _ R e1 fun v F1 H1 p1 => ?_
  refine kb F1 H1 ρ1 σ ds _ _ p1.rel e2 fun vs F2 H2 p2 => ?_
  have n := p1.n.tr p2.n
  exact q (v :: vs) F2 H2 ⟨n.st, n.rel, v, vs, rfl, RepD.le p2.st.le p1.rep, p2.rep⟩
def dTup (m : DenA) : Den := fun ρ => (m ρ).bind fun p => if p.1.length ≤ sizeLine then some (.lf (.tup p.1), p.2) else none
def dLst (m : DenA) : Den := fun ρ => (m ρ).bind fun p => if p.1.length ≤ sizeLine then some (.lst p.1, p.2) else none
theorem PoA.pv {G : Gx} {F H F1 H1 F2 H2 : Hp} {ρ ρ1 : En} {σ : St} {ds : List D} {vs : List V} {t : T} {v : V} (p : PoA G F H ρ σ ds vs F1 H1 ρ1) (q : PV G F1 H1 t v F2 H2) : PoE G F H ρ σ t v F2 H2 ρ1 := p.n.trE (q.poE p.rel)
theorem se_tup {m : DenA} {k} (h : SA X es m) : SE X (.Tuple es k pos) (dTup m) := by
  obtain ⟨te, pa, ka⟩ := h
  refine ⟨_, pe_tupF pa, fun F H ρ σ t ρ' Q R e q => ?_⟩
  obtain ⟨⟨ds, ρ1⟩, e1, e⟩ := bind_some e
  obtain ⟨hz, e⟩ := ite_some e
  cases e
  refine ka F H ρ σ ds _ _ R e1 fun vs F1 H1 p1 => ⟨by rw [← p1.rep.length]; exact hz, PV.newT p1.rel.sub p1.rep fun v F' H' pv => q v F' H' (p1.pv pv)⟩
theorem se_lst {m : DenA} (h : SA X es m) : SE X (.List es pos) (dLst m) := by
  obtain ⟨te, pa, ka⟩ := h
  refine ⟨_, pe_lst pa, fun F H ρ σ t ρ' Q R e q => ?_⟩
  obtain ⟨⟨ds, ρ1⟩, e1, e⟩ := bind_some e
  obtain ⟨hz, e⟩ := ite_some e
  cases e
  refine ka F H ρ σ ds _ _ R e1 fun vs F1 H1 p1 => ⟨by rw [← p1.rep.length]; exact hz, fun p hp => q _ _ _ (p1.pv (PV.lst p1.rel.sub p1.rep hp))⟩

/-! ### tests -/
def truD : D → Option Bool
  | .non => some false
  | .bl b => some b
  | .int i => some (i != 0)
  | .str x => if x.length ≤ sizeLine then some ((x.length : Int) != 0) else none
  | .lst xs => some (!xs.isEmpty)
  | .tup xs => some (!xs.isEmpty)
  | .dct ks _ => some (!ks.isEmpty)
  | _ => none
/-- truth of dicts that may be locked -/
theorem truth_rd {pins : List (Addr × Obj)} {σ : St} {H : Hp} {s : Shared} {p : Addr} {kvs : List (Key × V)} {Q : Bool → Hp → Prop} (I : Inv X pins σ H s) (h : Rd H p (.dK kvs)) (q : Q (!kvs.isEmpty) H) :
    wpAny (model X.prog X.w) X.A (truthy (.ref p)) (TP X pins σ Q) X.xe s := d_truth I h fun s' I' => ⟨H, I', q⟩
theorem RepDs.isEmpty {G : Gx} {F : Hp} {ds : List D} {us : List V} (r : RepDs G F ds us) : us.isEmpty = ds.isEmpty := by
  cases ds with
  | nil => cases r; rfl
  | cons d ds => obtain ⟨u, w, rfl, _⟩ := r; rfl
def tTruthO (K : PySem.W.Frag) (t : TE) : TT := fun σ H Q => t σ H fun x H1 => ∃ k, (TruV K x H1 k ∨ ∃ p kvs, x = .ref p ∧ Rd H1 p (.dK kvs) ∧ k = !kvs.isEmpty) ∧ Q k H1
theorem pt_truthO {ta : TE} (ha : PE X a ta) (he : ∀ whole, isTrue a X.env whole = (do let v ← whole; standAt a.pos; holding [v] (truthy v))) : PT X a (tTruthO X.K ta) := by
  refine ⟨fun pins s σ H Q I h => ?_⟩
  refine isTrue_plain (thn (ha.run pins s σ H _ I h) fun v s1 ⟨x, H1, I1, r1, k, tk, q1⟩ => ?_) (he _)
  rcases tk with tk | ⟨p, kvs, rfl, hp, rfl⟩
  · exact tru_ok pins s1 σ H1 x v Q I1 r1 ⟨k, tk, q1⟩
  · cases r1
    exact truth_rd I1 hp q1
def dTru (m : DenO) : DenB := fun ρ => (m ρ).bind fun p => (p.1.at_ p.2).bind fun d => (truD d).bind fun b => some (b, p.2)
theorem st_truth {m : DenO} (ha : SO X a m) (he : ∀ whole, isTrue a X.env whole = (do let v ← whole; standAt a.pos; holding [v] (truthy v))) : ST X a (dTru m) := by
  obtain ⟨ta, pa, ka⟩ := ha
  refine ⟨_, pt_truthO pa he, fun F H ρ σ k ρ' Q R e q => ?_⟩
  obtain ⟨⟨l, ρ1⟩, e1, e⟩ := bind_some e
  obtain ⟨d, e2, e⟩ := bind_some e
  obtain ⟨b, e3, e⟩ := bind_some e
  cases e
  refine ka F H ρ σ l _ _ R e1 fun v F1 H1 p1 n1 => ?_
  have s := p1.rel.sub
  have r := n1.now (Le.refl _) p1.rel e2
  refine ⟨k, ?_, q F1 H1 p1⟩
  cases d with
  | non => obtain rfl := r.fz rfl; cases e3; exact .inl rfl
  | bl b => obtain rfl := r.fz rfl; cases e3; exact .inl rfl
  | int b => obtain rfl := r.fz rfl; cases e3; exact .inl rfl
  | str x => obtain rfl := r.fz rfl; obtain ⟨c, rfl⟩ := ite_some e3; exact .inl ⟨c, rfl⟩
  | lst xs => obtain ⟨p, us, rfl, h1, r1⟩ := r.lst s; cases e3; exact .inl (.inl ⟨us, SqL.of h1, by rw [r1.isEmpty]⟩)
  | tup xs => obtain ⟨p, us, o, rfl, h1, _, r1⟩ := r.fz rfl; cases e3; exact .inl (.inr (.inl ⟨us, s.rdT h1 _, by rw [r1.isEmpty]⟩))
  | dct ks ds =>
    obtain ⟨p, us, rfl, h1, l, r1⟩ := r.dct s
    cases e3
    refine .inr ⟨p, _, rfl, h1, ?_⟩
    cases ks with
    | nil => rfl
    | cons k ks => cases us with
      | nil => cases l
      | cons u us => rfl
  | _ => cases e3
/-- an expression that gives True or False -/
theorem st_val {m : Den} (ha : SE X a m) (he : ∀ whole, isTrue a X.env whole = (do let v ← whole; standAt a.pos; holding [v] (truthy v))) : ST X a (dBl m) := by
  obtain ⟨ta, pa, ka⟩ := ha
  refine ⟨_, pt_val pa he, fun F H ρ σ k ρ' Q R e q => ?_⟩
  obtain ⟨⟨t, ρ1⟩, e1, e⟩ := bind_some e
  refine ka F H ρ σ t ρ1 _ R e1 fun v F' H' po => ?_
  cases t with
  | lf d =>
    cases d with
    | bl k => cases e; exact ⟨_, po.rep, q F' H' po.n⟩
    | _ => cases e
  | _ => cases e
def SW (X : Cx) (e : Expr) (m : DenB) : Prop := ∃ te, PW X e te ∧ ∀ (F H : Hp) (ρ : En) (σ : St) (b : Bool) (ρ' : En) (Q : Bool → Hp → Prop), Rel (gx X) F H ρ σ → m ρ = some (b, ρ') →
  (∀ F' H', PoN (gx X) F H ρ σ F' H' ρ' → Q b H') → te σ H Q
theorem SW.t {m : DenB} (h : SW X e m) : ST X e m := by
  obtain ⟨te, p, k⟩ := h
  exact ⟨te, p.pt, k⟩
def dAnd (ma mb : DenB) : DenB := fun ρ => (ma ρ).bind fun p => if p.1 = true then mb p.2 else some (false, p.2)
def dOr (ma mb : DenB) : DenB := fun ρ => (ma ρ).bind fun p => if p.1 = true then some (true, p.2) else mb p.2
def dNot (ma : DenB) : DenB := fun ρ => (ma ρ).bind fun p => some (!p.1, p.2)
theorem sw_and1 {m : DenB} (h : ST X a m) : SW X (.BoolOp .And [a] pos) m := by
  obtain ⟨te, p, k⟩ := h
  exact ⟨te, pw_and1 p, k⟩
theorem sw_or1 {m : DenB} (h : ST X a m) : SW X (.BoolOp .Or [a] pos) m := by
  obtain ⟨te, p, k⟩ := h
  exact ⟨te, pw_or1 p, k⟩
theorem sw_and {ma mb : DenB} (ha : ST X a ma) (hb : SW X (.BoolOp .And (b :: es) pos) mb) : SW X (.BoolOp .And (a :: b :: es) pos) (dAnd ma mb) := by
  obtain ⟨ta, pa, ka⟩ := ha
  obtain ⟨tb, pb, kb⟩ := hb
  refine ⟨_, pw_and pa pb, fun F H ρ σ k ρ' Q R e q => ?_⟩
  obtain ⟨⟨c, ρ1⟩, e1, e⟩ := bind_some e
  refine ka F H ρ σ c ρ1 _ R e1 fun F1 H1 p1 => ?_
  cases c with
  | true => rw [if_pos rfl] at e ⊢; exact kb F1 H1 ρ1 σ k ρ' Q p1.rel e fun F2 H2 p2 => q F2 H2 (p1.tr p2)
  | false =>
    rw [if_neg Bool.false_ne_true] at e ⊢
    cases e
    exact q F1 H1 p1
theorem sw_or {ma mb : DenB} (ha : ST X a ma) (hb : SW X (.BoolOp .Or (b :: es) pos) mb) : SW X (.BoolOp .Or (a :: b :: es) pos) (dOr ma mb) := by
  obtain ⟨ta, pa, ka⟩ := ha
  obtain ⟨tb, pb, kb⟩ := hb
  refine ⟨_, pw_or pa pb, fun F H ρ σ k ρ' Q R e q => ?_⟩
  obtain ⟨⟨c, ρ1⟩, e1, e⟩ := bind_some e
  refine ka F H ρ σ c ρ1 _ R e1 fun F1 H1 p1 => ?_
  cases c with
  | false => rw [if_neg Bool.false_ne_true] at e ⊢; exact kb F1 H1 ρ1 σ k ρ' Q p1.rel e fun F2 H2 p2 => q F2 H2 (p1.tr p2)
  | true =>
    rw [if_pos rfl] at e ⊢
    cases e
    exact q F1 H1 p1
theorem st_not {ma : DenB} (ha : ST X a ma) : ST X (.UnaryOp .Not a pos) (dNot ma) := by
  obtain ⟨ta, pa, ka⟩ := ha
  refine ⟨_, pt_not pa, fun F H ρ σ k ρ' Q R e q => ?_⟩
  obtain ⟨⟨c, ρ1⟩, e1, e⟩ := bind_some e
  cases e
  exact ka F H ρ σ c _ _ R e1 fun F1 H1 p1 => q F1 H1 p1
/-- as values that are True or False -/
def dAndV (ma mb : Den) : Den := fun ρ => (dBl ma ρ).bind fun p => if p.1 = true then mb p.2 else some (.lf (.bl false), p.2)
def dOrV (ma mb : Den) : Den := fun ρ => (dBl ma ρ).bind fun p => if p.1 = true then some (.lf (.bl true), p.2) else mb p.2
theorem dBl_some {m : Den} {ρ ρ' : En} {k : Bool} (h : dBl m ρ = some (k, ρ')) : m ρ = some (.lf (.bl k), ρ') := by
  obtain ⟨⟨t, ρ1⟩, e1, e⟩ := bind_some h
  cases t with
  | lf d =>
    cases d with
    | bl k => cases e; exact e1
    | _ => cases e
  | _ => cases e
theorem se_bone {op : BoolOp} {m : Den} (h : SE X a m) : SE X (.BoolOp op [a] pos) m := by
  obtain ⟨te, p, k⟩ := h
  exact ⟨te, pe_one p, k⟩
theorem se_andV {ma mb : Den} (ha : SE X a ma) (hb : SE X (.BoolOp .And (b :: es) pos) mb) : SE X (.BoolOp .And (a :: b :: es) pos) (dAndV ma mb) := by
  obtain ⟨ta, pa, ka⟩ := ha
  obtain ⟨tb, pb, kb⟩ := hb
  refine ⟨_, pe_and pa pb, fun F H ρ σ t ρ' Q R e q => ?_⟩
  obtain ⟨⟨c, ρ1⟩, e1, e⟩ := bind_some e
  refine ka F H ρ σ _ ρ1 _ R (dBl_some e1) fun v F1 H1 p1 => ⟨c, p1.rep, ?_⟩
  cases c with
  | true => rw [if_pos rfl] at e ⊢; exact kb F1 H1 ρ1 σ t ρ' Q p1.rel e fun v F2 H2 p2 => q v F2 H2 (p1.n.trE p2)
  | false =>
    rw [if_neg Bool.false_ne_true] at e ⊢
    cases e
    exact q _ F1 H1 (p1.n.trE ((PV.bl p1.rel.sub _).poE p1.rel))
theorem se_orV {ma mb : Den} (ha : SE X a ma) (hb : SE X (.BoolOp .Or (b :: es) pos) mb) : SE X (.BoolOp .Or (a :: b :: es) pos) (dOrV ma mb) := by
  obtain ⟨ta, pa, ka⟩ := ha
  obtain ⟨tb, pb, kb⟩ := hb
  refine ⟨_, pe_or pa pb, fun F H ρ σ t ρ' Q R e q => ?_⟩
  obtain ⟨⟨c, ρ1⟩, e1, e⟩ := bind_some e
  refine ka F H ρ σ _ ρ1 _ R (dBl_some e1) fun v F1 H1 p1 => ⟨c, p1.rep, ?_⟩
  cases c with
  | false => rw [if_neg Bool.false_ne_true] at e ⊢; exact kb F1 H1 ρ1 σ t ρ' Q p1.rel e fun v F2 H2 p2 => q v F2 H2 (p1.n.trE p2)
  | true =>
    rw [if_pos rfl] at e ⊢
    cases e
    exact q _ F1 H1 (p1.n.trE ((PV.bl p1.rel.sub _).poE p1.rel))
def dNotV (ma : Den) : Den := fun ρ => (dBl ma ρ).bind fun p => some (.lf (.bl (!p.1)), p.2)
theorem se_notV {ma : Den} (ha : SE X a ma) : SE X (.UnaryOp .Not a pos) (dNotV ma) := by
  obtain ⟨ta, pa, ka⟩ := ha
  refine ⟨_, pe_not pa, fun F H ρ σ t ρ' Q R e q => ?_⟩
  obtain ⟨⟨c, ρ1⟩, e1, e⟩ := bind_some e
  cases e
  exact ka F H ρ σ _ _ _ R (dBl_some e1) fun v F1 H1 p1 => ⟨c, p1.rep, q _ F1 H1 (p1.n.trE ((PV.bl p1.rel.sub _).poE p1.rel))⟩
def dIf {α : Type} (mc : DenB) (ma mb : En → Option (α × En)) : En → Option (α × En) := fun ρ => (mc ρ).bind fun p => if p.1 = true then ma p.2 else mb p.2
theorem se_if {mc : DenB} {ma mb : Den} (hc : ST X c mc) (ha : SE X a ma) (hb : SE X b mb) : SE X (.IfExp c a b pos) (dIf mc ma mb) := by
  obtain ⟨tc, pc, kc⟩ := hc
  obtain ⟨ta, pa, ka⟩ := ha
  obtain ⟨tb, pb, kb⟩ := hb
  refine ⟨_, pe_ifExp pc pa pb, fun F H ρ σ t ρ' Q R e q => ?_⟩
  obtain ⟨⟨k, ρ1⟩, e1, e⟩ := bind_some e
  refine kc F H ρ σ k ρ1 _ R e1 fun F1 H1 p1 => ?_
  cases k with
  | true => rw [if_pos rfl] at e ⊢; exact ka F1 H1 ρ1 σ t ρ' Q p1.rel e fun v F2 H2 p2 => q v F2 H2 (p1.trE p2)
  | false => rw [if_neg Bool.false_ne_true] at e ⊢; exact kb F1 H1 ρ1 σ t ρ' Q p1.rel e fun v F2 H2 p2 => q v F2 H2 (p1.trE p2)

/-! ### a op b op' c -/
def dChain (g g' : D → D → Option T) (ma mb mc : Den) : DenB := fun ρ => (dD ma ρ).bind fun p => (dD mb p.2).bind fun q => (g p.1 q.1).bind fun t => match t with
  | .lf (.bl true) => (dD mc q.2).bind fun r => (g' q.1 r.1).bind fun t' => match t' with
    | .lf (.bl k) => some (k, r.2)
    | _ => none
  | .lf (.bl false) => some (false, q.2)
  | _ => none
def dBV (m : DenB) : Den := fun ρ => (m ρ).bind fun p => some (.lf (.bl p.1), p.2)

/-! ### slices -/
def dPart (m : Option Den) : En → Option (Option Int × En) := fun ρ => match m with
  | none => some (none, ρ)
  | some m => (dD m ρ).bind fun p => match p.1 with
    | .int i => some (some i, p.2)
    | _ => none
def SPt (X : Cx) (e : Option Expr) (m : Option Den) : Prop := ∃ te, PO X e te ∧ ∀ (F H : Hp) (ρ : En) (σ : St) (o : Option Int) (ρ' : En) (Q : Option Int → Hp → Prop), Rel (gx X) F H ρ σ → dPart m ρ = some (o, ρ') →
  (∀ F' H', PoN (gx X) F H ρ σ F' H' ρ' → Q o H') → te σ H Q
theorem sp_none : SPt X none none := ⟨_, po_none, fun F H ρ σ o ρ' Q R e q => by cases e; exact q F H (.refl R)⟩
theorem sp_some {m : Den} (h : SE X e m) : SPt X (some e) (some m) := by
  obtain ⟨te, p, k⟩ := h.d
  refine ⟨_, po_some p, fun F H ρ σ o ρ' Q R e q => ?_⟩
  obtain ⟨⟨d, ρ1⟩, e1, e⟩ := bind_some e
  cases d with
  | int i => cases e; exact k F H ρ σ _ _ _ R e1 fun v F' H' po => ⟨i, po.rep, q F' H' po.n⟩
  | _ => cases e
def cutD {α : Type} (xs : List α) (lo hi : Option Int) : List α := (xs.drop (HT.sIx xs.length 0 lo)).take (HT.sIx xs.length xs.length hi - HT.sIx xs.length 0 lo)
def slD (d : D) (lo hi : Option Int) : Option T := match d with
  | .lst xs => some (.lst (cutD xs lo hi))
  | .tup xs => some (.lf (.tup (cutD xs lo hi)))
  | .str x => if x.length ≤ sizeLine then some (.lf (.str (cutS x lo hi))) else none
  | _ => none
def dSlice (m : DenO) (lo hi : Option Den) : Den := fun ρ => (m ρ).bind fun p => (dPart lo p.2).bind fun q => (dPart hi q.2).bind fun r => (p.1.at_ r.2).bind fun d => (slD d q.1 r.1).bind fun t => some (t, r.2)
theorem RepDs.cut {G : Gx} {F : Hp} {ds : List D} {us : List V} (r : RepDs G F ds us) (lo hi : Option Int) : RepDs G F (cutD ds lo hi) (cutV us lo hi) := by
  unfold cutD cutV
  rw [r.length]
  exact (r.drop _).take _
theorem cutD_whole {α : Type} {xs : List α} {lo hi : Option Int} (h : HT.sIx xs.length 0 lo = 0 ∧ HT.sIx xs.length xs.length hi = xs.length) : cutD xs lo hi = xs := by
  unfold cutD
  rw [h.1, h.2]
  simp
theorem se_slice {m : DenO} {lo hi : Option Expr} {ml mh : Option Den} {p2 : Pos} (ha : SO X a m) (hl : SPt X lo ml) (hh : SPt X hi mh) : SE X (.Subscript a (.Slice lo hi none p2) pos) (dSlice m ml mh) := by
  obtain ⟨ta, pa, ka⟩ := ha
  obtain ⟨tl, pl, kl⟩ := hl
  obtain ⟨th, ph, kh⟩ := hh
  refine ⟨_, pe_slice (sl_list.or (sl_tupF.or sl_str)) pa pl ph, fun F H ρ σ t ρ' Q R e q => ?_⟩
  obtain ⟨⟨l, ρ1⟩, e1, e⟩ := bind_some e
  obtain ⟨⟨o1, ρ2⟩, e2, e⟩ := bind_some e
  obtain ⟨⟨o2, ρ3⟩, e3, e⟩ := bind_some e
  obtain ⟨d, e4, e⟩ := bind_some e
  obtain ⟨t', e5, e⟩ := bind_some e
  cases e
  refine ka F H ρ σ l ρ1 _ R e1 fun v F1 H1 p1 n1 => ?_
  refine kl F1 H1 ρ1 σ o1 ρ2 _ p1.rel e2 fun F2 H2 p2 => ?_
  refine kh F2 H2 ρ2 σ o2 _ _ p2.rel e3 fun F3 H3 p3 => ?_
  have s := p3.rel.sub
  have r := n1.now (p2.st.le.trans p3.st.le) p3.rel e4
  have fin : ∀ {v F' H'}, PV (gx X) F3 H3 t v F' H' → Q v H' := fun {v F' H'} pv => q v F' H' (p1.trE (p2.trE (p3.trE (pv.poE p3.rel))))
  cases d with
  | lst xs =>
    cases e5
    obtain ⟨p, us, rfl, h1, r1⟩ := r.lst s
    exact .inl ⟨p, us, rfl, SqL.of h1, fun p hp => fin (PV.lst s (r1.cut _ _) hp)⟩
  | tup xs =>
    cases e5
    have r' := r.fz rfl
    obtain ⟨p, us, o, rfl, h1, _, r1⟩ := id r'
    refine .inr (.inl ⟨p, us, rfl, s.rdT h1 _, fun hw => ?_, fun _ => PV.newT s (r1.cut _ _) fun v F' H' pv => fin pv⟩)
    rw [← r1.length] at hw
    rw [cutD_whole hw] at fin
    exact fin (PV.same s r')
  | str x =>
    obtain ⟨c, rfl⟩ := ite_some e5
    obtain rfl := r.fz rfl
    exact .inr (.inr ⟨x, rfl, c, fin (PV.same s rfl)⟩)
  | _ => cases e5
end VI

set_option Elab.async false
set_option linter.all false
set_option maxRecDepth 100000
set_option maxHeartbeats 4000000
/-! VG: statements -/
namespace VI
open PySem PySem.Spec L2
open PyProof.Rows hiding St
variable {X : Cx} {a b c e : Expr} {es : List Expr} {pos : Pos} {A : Nat → Bool}

inductive Out where
  | nx | rt (t : T) | bk | ct
abbrev DenS := En → Option (Out × En)
def Keep (A : Nat → Bool) (σ σ' : St) : Prop := σ'.length = σ.length ∧ ∀ i, A i = false → σ'[i]? = σ[i]?
theorem Keep.refl {σ : St} : Keep A σ σ := ⟨rfl, fun _ _ => rfl⟩
theorem Keep.trans {σ σ1 σ2 : St} (h : Keep A σ σ1) (k : Keep A σ1 σ2) : Keep A σ σ2 := ⟨k.1.trans h.1, fun i q => (k.2 i q).trans (h.2 i q)⟩
/-- a state is reached -/
structure Got (G : Gx) (A : Nat → Bool) (F H : Hp) (ρ : En) (σ : St) (F' H' : Hp) (ρ' : En) (σ' : St) : Prop where
  st : Stp (Own ρ σ) F H (Own ρ' σ') F' H'
  rel : Rel G F' H' ρ' σ'
  kp : Keep A σ σ'
structure GotV (G : Gx) (A : Nat → Bool) (F H : Hp) (ρ : En) (σ : St) (t : T) (v : V) (F' H' : Hp) (ρ' : En) (σ' : St) : Prop extends Got G A F H ρ σ F' H' ρ' σ' where
  rep : RepT G F' H' t v
  new : ∀ a, t.own = true → v = .ref a → ¬ Own ρ' σ' a ∧ (Own ρ σ a ∨ H a = none)
section
variable {G : Gx} {F H F1 H1 F2 H2 : Hp} {ρ ρ1 ρ2 : En} {σ σ1 σ2 : St} {t : T} {v : V}
theorem Got.refl (R : Rel G F H ρ σ) : Got G A F H ρ σ F H ρ σ := ⟨Stp.refl, R, Keep.refl⟩
theorem Got.tr (a : Got G A F H ρ σ F1 H1 ρ1 σ1) (b : Got G A F1 H1 ρ1 σ1 F2 H2 ρ2 σ2) : Got G A F H ρ σ F2 H2 ρ2 σ2 := ⟨a.st.trans b.st, b.rel, a.kp.trans b.kp⟩
theorem Stp.came {O O1 : Addr → Prop} (a : Stp O F H O1 F1 H1) {x : Addr} (h : O1 x ∨ H1 x = none) : O x ∨ H x = none := by
  rcases h with q | q
  · exact a.ow x q
  · by_cases ho : O x
    · exact .inl ho
    · cases z : H x with
      | none => exact .inr rfl
      | some w => rw [a.fr x w z ho] at q; cases q
theorem Got.trV (a : Got G A F H ρ σ F1 H1 ρ1 σ1) (b : GotV G A F1 H1 ρ1 σ1 t v F2 H2 ρ2 σ2) : GotV G A F H ρ σ t v F2 H2 ρ2 σ2 :=
  { a.tr b.toGot with rep := b.rep, new := fun x o e => ⟨(b.new x o e).1, a.st.came (b.new x o e).2⟩ }
theorem PoN.got (a : PoN G F H ρ σ F1 H1 ρ1) : Got G A F H ρ σ F1 H1 ρ1 σ := ⟨a.st, a.rel, Keep.refl⟩
theorem PoE.got (a : PoE G F H ρ σ t v F1 H1 ρ1) : GotV G A F H ρ σ t v F1 H1 ρ1 σ := { a.n.got with rep := a.rep, new := a.new }
/-- a slot is stored -/
theorem own_set {i : Nat} {x : Addr} (h : Own (ρ.set i (some t)) (σ.set i (some v)) x) (hl : ρ.length = σ.length) : Own ρ σ x ∨ (t.own = true ∧ v = .ref x) := by
  obtain ⟨j, u, e, o, s⟩ := h
  by_cases hj : i = j
  · subst hj
    by_cases hi : i < ρ.length
    · rw [List.getElem?_set_self hi] at e
      rw [List.getElem?_set_self (by omega)] at s
      cases e; cases s
      exact .inr ⟨o, rfl⟩
    · rw [List.getElem?_eq_none (by simpa using hi)] at e
      cases e
  · rw [List.getElem?_set_ne hj] at e s
    exact .inl ⟨j, u, e, o, s⟩
theorem Rel.set (R : Rel G F H ρ σ) {i : Nat} (r : RepT G F H t v) (n : ∀ a, t.own = true → v = .ref a → ¬ Own ρ σ a) : Rel G F H (ρ.set i (some t)) (σ.set i (some v)) := by
  have hl := R.len
  refine ⟨by simp [hl], R.sub, fun j u e => ?_, fun j k u w x ne ej oj sj ek ok sk => ?_⟩
  · by_cases hj : i = j
    · subst hj
      by_cases hi : i < ρ.length
      · rw [List.getElem?_set_self hi] at e
        cases e
        exact ⟨v, List.getElem?_set_self (by omega), r⟩
      · rw [List.getElem?_eq_none (by simpa using hi)] at e
        cases e
    · rw [List.getElem?_set_ne hj] at e ⊢
      exact R.rep j u e
  · by_cases hj : i = j
    · by_cases hk : i = k
      · exact ne (hj.symm.trans hk)
      · rw [List.getElem?_set_ne hk] at ek sk
        subst hj
        by_cases hi : i < ρ.length
        · rw [List.getElem?_set_self hi] at ej
          rw [List.getElem?_set_self (by omega)] at sj
          cases ej; cases sj
          exact n x oj rfl ⟨k, w, ek, ok, sk⟩
        · rw [List.getElem?_eq_none (by simpa using hi)] at ej
          cases ej
    · rw [List.getElem?_set_ne hj] at ej sj
      by_cases hk : i = k
      · subst hk
        by_cases hi : i < ρ.length
        · rw [List.getElem?_set_self hi] at ek
          rw [List.getElem?_set_self (by omega)] at sk
          cases ek; cases sk
          exact n x ok rfl ⟨j, u, ej, oj, sj⟩
        · rw [List.getElem?_eq_none (by simpa using hi)] at ek
          cases ek
      · rw [List.getElem?_set_ne hk] at ek sk
        exact R.sep j k u w x ne ej oj sj ek ok sk
theorem PoE.set (p : PoE G F H ρ σ t v F1 H1 ρ1) {i : Nat} (hA : A i = true) : Got G A F H ρ σ F1 H1 (ρ1.set i (some t)) (σ.set i (some v)) := by
  refine ⟨⟨p.st.le, p.st.fr, fun x h => ?_, p.st.fz⟩, p.rel.set p.rep fun a o e => (p.new a o e).1, by simp, fun j hj => ?_⟩
  · rcases own_set h p.rel.len with q | ⟨o, e⟩
    · exact p.st.ow x q
    · exact (p.new x o e).2
  · have : i ≠ j := fun z => by subst z; rw [hA] at hj; cases hj
    exact List.getElem?_set_ne this
/-- a slot's own object is changed -/
theorem Rel.upd (R : Rel G F H ρ σ) {i : Nat} {t0 t1 : T} {p : Addr} {u : HO} (h : ρ[i]? = some (some t0)) (o : t0.own = true) (hs : σ[i]? = some (some (.ref p))) (o1 : t1.own = true) (r : RepT G F (L2.upd H p u) t1 (.ref p)) :
    Rel G F (L2.upd H p u) (ρ.set i (some t1)) σ ∧ Stp (Own ρ σ) F H (Own (ρ.set i (some t1)) σ) F (L2.upd H p u) := by
  have own_i : Own ρ σ p := ⟨i, t0, h, o, hs⟩
  have fp := (R.own_at own_i).2
  have hi : i < ρ.length := (List.getElem?_eq_some_iff.mp h).1
  have same : ∀ x, Own (ρ.set i (some t1)) σ x → Own ρ σ x := fun x ⟨j, w, e, ow, s⟩ => by
    by_cases hj : i = j
    · subst hj
      rw [hs] at s; cases s
      exact own_i
    · rw [List.getElem?_set_ne hj] at e
      exact ⟨j, w, e, ow, s⟩
  refine ⟨⟨by simp [R.len], fun b w e => ?_, fun j w e => ?_, fun j k w w2 x ne ej oj sj ek ok sk => ?_⟩, ⟨Le.refl _, fun b w e n => ?_, fun x q => .inl (same x q), fun _ z => .inl z⟩⟩
  · have nb : b ≠ p := fun z => by subst z; rw [fp] at e; cases e
    rw [upd_ne nb]; exact R.sub b w e
  · by_cases hj : i = j
    · subst hj
      rw [List.getElem?_set_self hi] at e
      cases e
      exact ⟨_, hs, r⟩
    · rw [List.getElem?_set_ne hj] at e
      obtain ⟨v2, s2, r2⟩ := R.rep j w e
      refine ⟨v2, s2, r2.go (Le.refl _) fun x ox ex => ?_⟩
      subst ex
      have nx : x ≠ p := fun z => by subst z; exact R.sep j i w t0 x (Ne.symm hj) e ox s2 h o hs
      exact ⟨upd_ne nx, (R.own_at ⟨j, w, e, ox, s2⟩).2⟩
  · obtain ⟨j', w', e', o', s'⟩ : ∃ (j' : Nat) (w' : T), ρ[j']? = some (some w') ∧ w'.own = true ∧ j' = j := by
      by_cases hj : i = j
      · exact ⟨i, t0, h, o, hj⟩
      · rw [List.getElem?_set_ne hj] at ej; exact ⟨j, w, ej, oj, rfl⟩
    obtain ⟨k', w2', e2', o2', s2'⟩ : ∃ (j' : Nat) (w' : T), ρ[j']? = some (some w') ∧ w'.own = true ∧ j' = k := by
      by_cases hj : i = k
      · exact ⟨i, t0, h, o, hj⟩
      · rw [List.getElem?_set_ne hj] at ek; exact ⟨k, w2, ek, ok, rfl⟩
    subst s' s2'
    exact R.sep _ _ w' w2' x ne e' o' sj e2' o2' sk
  · have nb : b ≠ p := fun z => n (z ▸ own_i)
    rw [upd_ne nb]; exact e
end

def Fin (G : Gx) (A : Nat → Bool) (F H : Hp) (ρ : En) (σ : St) (D : Ends) (o : Out) (ρ' : En) : Prop := match o with
  | .nx => ∀ σ' F' H', Got G A F H ρ σ F' H' ρ' σ' → D.nx σ' H'
  | .bk => ∀ σ' F' H', Got G A F H ρ σ F' H' ρ' σ' → D.bk σ' H'
  | .ct => ∀ σ' F' H', Got G A F H ρ σ F' H' ρ' σ' → D.ct σ' H'
  | .rt t => ∀ v σ' F' H', GotV G A F H ρ σ t v F' H' ρ' σ' → D.rt v H'
theorem Fin.tr {G : Gx} {F H F1 H1 : Hp} {ρ ρ1 ρ' : En} {σ σ1 : St} {D : Ends} {o : Out} (f : Fin G A F H ρ σ D o ρ') (g : Got G A F H ρ σ F1 H1 ρ1 σ1) : Fin G A F1 H1 ρ1 σ1 D o ρ' := by
  cases o with
  | nx => exact fun σ' F' H' k => f σ' F' H' (g.tr k)
  | bk => exact fun σ' F' H' k => f σ' F' H' (g.tr k)
  | ct => exact fun σ' F' H' k => f σ' F' H' (g.tr k)
  | rt t => exact fun v σ' F' H' k => f v σ' F' H' (g.trV k)
def SS (X : Cx) (A : Nat → Bool) (st : Stmt) (m : DenS) : Prop := ∃ ts, PS X st ts ∧ ∀ (F H : Hp) (ρ : En) (σ : St) (o : Out) (ρ' : En) (D : Ends), Rel (gx X) F H ρ σ → m ρ = some (o, ρ') → Fin (gx X) A F H ρ σ D o ρ' → ts D σ H
def SSs (X : Cx) (A : Nat → Bool) (st : List Stmt) (m : DenS) : Prop := ∃ ts, PSs X st ts ∧ ∀ (F H : Hp) (ρ : En) (σ : St) (o : Out) (ρ' : En) (D : Ends), Rel (gx X) F H ρ σ → m ρ = some (o, ρ') → Fin (gx X) A F H ρ σ D o ρ' → ts D σ H
def sNil : DenS := fun ρ => some (.nx, ρ)
def sSeq (m n : DenS) : DenS := fun ρ => (m ρ).bind fun p => match p.1 with
  | .nx => n p.2
  | o => some (o, p.2)
theorem ss_nil : SSs X A [] sNil := ⟨_, pss_nil, fun F H ρ σ o ρ' D R e f => by cases e; exact f σ F H (.refl R)⟩
theorem ss_cons {st : Stmt} {r : List Stmt} {m n : DenS} (h : SS X A st m) (k : SSs X A r n) : SSs X A (st :: r) (sSeq m n) := by
  obtain ⟨t1, p1, h1⟩ := h
  obtain ⟨t2, p2, h2⟩ := k
  refine ⟨_, pss_cons p1 p2, fun F H ρ σ o ρ' D R e f => ?_⟩
  obtain ⟨⟨o1, ρ1⟩, e1, e⟩ := bind_some e
  refine h1 F H ρ σ o1 ρ1 _ R e1 ?_
  cases o1 with
  | nx => exact fun σ' F' H' g => h2 F' H' ρ1 σ' o ρ' D g.rel e (f.tr g)
  | bk => cases e; exact f
  | ct => cases e; exact f
  | rt t => cases e; exact f
def sC (o : Out) : DenS := fun ρ => some (o, ρ)
theorem ss_pass : SS X A (.Pass pos) (sC .nx) := ⟨_, ps_pass, fun F H ρ σ o ρ' D R e f => by cases e; exact f σ F H (.refl R)⟩
theorem ss_break : SS X A (.Break pos) (sC .bk) := ⟨_, ps_break, fun F H ρ σ o ρ' D R e f => by cases e; exact f σ F H (.refl R)⟩
theorem ss_continue : SS X A (.Continue pos) (sC .ct) := ⟨_, ps_continue, fun F H ρ σ o ρ' D R e f => by cases e; exact f σ F H (.refl R)⟩
theorem ss_retN : SS X A (.Return none pos) (sC (.rt (.lf .non))) := ⟨_, ps_retN, fun F H ρ σ o ρ' D R e f => by
  cases e
  exact f .non σ F H { Got.refl R with rep := rfl, new := fun _ o => nomatch o }⟩
/-- code that is never reached -/
def sNever : DenS := fun _ => none
theorem ss_never {st : Stmt} : SS X A st sNever := ⟨_, ps_never, fun F H ρ σ o ρ' D R e f => by cases e⟩
def sRet (m : Den) : DenS := fun ρ => (m ρ).bind fun p => some (.rt p.1, p.2)
theorem ss_ret {m : Den} (h : SE X e m) : SS X A (.Return (some e) pos) (sRet m) := by
  obtain ⟨te, pe, k⟩ := h
  refine ⟨_, ps_ret pe, fun F H ρ σ o ρ' D R e f => ?_⟩
  obtain ⟨⟨t, ρ1⟩, e1, e⟩ := bind_some e
  cases e
  exact k F H ρ σ t _ _ R e1 fun v F' H' po => f v σ F' H' po.got
/-- a name's own list or dict leaves with it -/
def sRetV (i : Nat) : DenS := fun ρ => match ρ[i]? with
  | some (some t) => some (.rt t, ρ.set i none)
  | _ => none
theorem ss_retV {i : Nat} {x : Str} {p : Pos} (hN : X.N[i]? = some x) (hv : Vis X.env.scope x) (hd : (x == ("__debug__" : Str)) = false) (hcd : (x == ("__classdict__" : Str)) = false) : SS X A (.Return (some (.Name x p)) pos) (sRetV i) := by
  refine ⟨_, ps_ret (pe_var hN hv hd hcd), fun F H ρ σ o ρ' D R e f => ?_⟩
  unfold sRetV at e
  split at e
  · rename_i t q
    cases e
    obtain ⟨v, hs, r⟩ := R.rep i t q
    have hi : i < ρ.length := (List.getElem?_eq_some_iff.mp q).1
    have sub : ∀ {j : Nat} {u : T}, (ρ.set i none)[j]? = some (some u) → i ≠ j ∧ ρ[j]? = some (some u) := fun {j u} e => by
      by_cases hj : i = j
      · subst hj; rw [List.getElem?_set_self hi] at e; cases e
      · rw [List.getElem?_set_ne hj] at e; exact ⟨hj, e⟩
    have osub : ∀ x, Own (ρ.set i none) σ x → Own ρ σ x := fun x ⟨j, u, e, o, s⟩ => ⟨j, u, (sub e).2, o, s⟩
    have rel : Rel (gx X) F H (ρ.set i none) σ := ⟨by simp [R.len], R.sub, fun j u e => R.rep j u (sub e).2, fun j k u w x ne ej oj sj ek ok sk => R.sep j k u w x ne (sub ej).2 oj sj (sub ek).2 ok sk⟩
    refine ⟨v, hs, f v σ F H { st := ⟨Le.refl _, fun _ _ h _ => h, fun x h => .inl (osub x h), fun _ z => .inl z⟩, rel := rel, kp := Keep.refl, rep := r, new := fun a o ev => ⟨fun ⟨j, u, ej, oj, sj⟩ => ?_, .inl ⟨i, t, q, o, by rw [hs, ev]⟩⟩ }⟩
    exact R.sep i j t u a (sub ej).1 q o (by rw [hs, ev]) (sub ej).2 oj sj
  · cases e
def sExpr (m : Den) : DenS := fun ρ => (m ρ).bind fun p => some (.nx, p.2)
theorem ss_expr {m : Den} (h : SE X e m) (hs : swapsWith e none pos.line X.env = pure false) : SS X A (.Expr e pos) (sExpr m) := by
  obtain ⟨te, pe, k⟩ := h
  refine ⟨_, ps_expr pe hs, fun F H ρ σ o ρ' D R e f => ?_⟩
  obtain ⟨⟨t, ρ1⟩, e1, e⟩ := bind_some e
  cases e
  exact k F H ρ σ t _ _ R e1 fun v F' H' po => f σ F' H' po.n.got
theorem ss_doc {x : Str} {j : Nat} {p : Pos} : SS X A (.Expr (.Constant (.str x) j p) pos) sNil := ⟨_, ps_doc, fun F H ρ σ o ρ' D R e f => by cases e; exact f σ F H (.refl R)⟩
/-- name = e -/
def sSet (i : Nat) (m : Den) : DenS := fun ρ => (m ρ).bind fun p => some (.nx, p.2.set i (some p.1))
theorem ss_set {i : Nat} {x : Str} {m : Den} {p : Pos} (hN : X.N.Nodup) (hi : X.N[i]? = some x) (hx : Loc X.env.scope x) (hA : A i = true) (h : SE X e m) (hs : swapsWith e (some (.Name x p)) pos.line X.env = pure false)
    (hf : X.fn x = true ∨ X.env.scope.names.lookup x = some .local) : SS X A (.Assign [.Name x p] e pos) (sSet i m) := by
  obtain ⟨te, pe, k⟩ := h
  refine ⟨_, ps_set hN hi hx pe hs hf, fun F H ρ σ o ρ' D R e f => ?_⟩
  obtain ⟨⟨t, ρ1⟩, e1, e⟩ := bind_some e
  cases e
  exact k F H ρ σ t _ _ R e1 fun v F' H' po => f _ F' H' (po.set hA)
theorem ss_if {st1 st2 : List Stmt} {mc : DenB} {m n : DenS} (hc : ST X c mc) (h : SSs X A st1 m) (k : SSs X A st2 n) : SS X A (.If c st1 st2 pos) (dIf mc m n) := by
  obtain ⟨tc, pc, kc⟩ := hc
  obtain ⟨t1, p1, h1⟩ := h
  obtain ⟨t2, p2, h2⟩ := k
  refine ⟨_, ps_if pc p1 p2, fun F H ρ σ o ρ' D R e f => ?_⟩
  obtain ⟨⟨k, ρ1⟩, e1, e⟩ := bind_some e
  refine kc F H ρ σ k ρ1 _ R e1 fun F1 H1 q1 => ?_
  cases k with
  | true => rw [if_pos rfl] at e ⊢; exact h1 F1 H1 ρ1 σ o ρ' D q1.rel e (f.tr q1.got)
  | false => rw [if_neg Bool.false_ne_true] at e ⊢; exact h2 F1 H1 ρ1 σ o ρ' D q1.rel e (f.tr q1.got)

/-! ### while -/
def wOut (k : DenS) (q : Out × En) : Option (Out × En) := match q.1 with
  | .nx => k q.2
  | .ct => k q.2
  | .bk => some (.nx, q.2)
  | .rt t => some (.rt t, q.2)
def wTurn (mc : DenB) (m : DenS) (k : DenS) : DenS := fun ρ => (mc ρ).bind fun p => if p.1 = true then (m p.2).bind (wOut k) else some (.nx, p.2)
def wRun (mc : DenB) (m : DenS) : Nat → DenS
  | 0 => fun _ => none
  | n + 1 => wTurn mc m (wRun mc m n)
theorem wTurn_at {mc : DenB} {m k : DenS} {ρ : En} {r : Out × En} (h : wTurn mc m k ρ = some r) : (∀ k', wTurn mc m k' ρ = some r) ∨ ∃ ρ2, k ρ2 = some r ∧ ∀ k' : DenS, k' ρ2 = some r → wTurn mc m k' ρ = some r := by
  obtain ⟨⟨b, ρ1⟩, e1, h⟩ := bind_some h
  cases b with
  | false => exact .inl fun _ => by unfold wTurn; rw [e1]; exact h
  | true =>
    have h : (m ρ1).bind (wOut k) = some r := h
    obtain ⟨⟨o, ρ2⟩, e2, h⟩ := bind_some h
    have go : ∀ k' : DenS, wTurn mc m k' ρ = wOut k' (o, ρ2) := fun k' => by
      unfold wTurn
      rw [e1]
      show (if true = true then (m ρ1).bind (wOut k') else some (.nx, ρ1)) = _
      rw [if_pos rfl, e2]
      rfl
    cases o with
    | nx => exact .inr ⟨ρ2, h, fun k' hk => (go k').trans hk⟩
    | ct => exact .inr ⟨ρ2, h, fun k' hk => (go k').trans hk⟩
    | bk => exact .inl fun k' => (go k').trans h
    | rt t => exact .inl fun k' => (go k').trans h
theorem wTurn_mono {mc : DenB} {m k k' : DenS} (hk : ∀ ρ r, k ρ = some r → k' ρ = some r) {ρ : En} {r : Out × En} (h : wTurn mc m k ρ = some r) : wTurn mc m k' ρ = some r := by
  rcases wTurn_at h with q | ⟨ρ2, h2, q⟩
  · exact q k'
  · exact q k' (hk _ _ h2)
theorem wRun_mono {mc : DenB} {m : DenS} : ∀ {n : Nat} {ρ : En} {r : Out × En}, wRun mc m n ρ = some r → wRun mc m (n + 1) ρ = some r
  | 0, _, _, h => by cases h
  | n + 1, ρ, r, h => wTurn_mono (fun _ _ h => wRun_mono h) h
theorem wRun_le {mc : DenB} {m : DenS} {n k : Nat} (hk : n ≤ k) {ρ : En} {r : Out × En} (h : wRun mc m n ρ = some r) : wRun mc m k ρ = some r := by
  induction hk with
  | refl => exact h
  | step _ ih => exact wRun_mono ih
open Classical in
noncomputable def sWhile (mc : DenB) (m : DenS) : DenS := fun ρ => if h : ∃ n r, wRun mc m n ρ = some r then some h.choose_spec.choose else none
theorem sWhile_of {mc : DenB} {m : DenS} {n : Nat} {ρ : En} {r : Out × En} (h : wRun mc m n ρ = some r) : sWhile mc m ρ = some r := by
  have hx : ∃ n r, wRun mc m n ρ = some r := ⟨n, r, h⟩
  unfold sWhile
  rw [dif_pos hx]
  have h2 := hx.choose_spec.choose_spec
  rcases Nat.le_total n hx.choose with q | q
  · rw [← h2]; exact wRun_le q h
  · have := wRun_le q h2
    rw [h] at this
    exact this.symm
theorem sWhile_run {mc : DenB} {m : DenS} {ρ : En} {r : Out × En} (h : sWhile mc m ρ = some r) : ∃ n, wRun mc m n ρ = some r := by
  unfold sWhile at h
  split at h
  · rename_i hx
    refine ⟨hx.choose, ?_⟩
    rw [← h]
    exact hx.choose_spec.choose_spec
  · cases h
/-- one turn -/
theorem sWhile_eq {mc : DenB} {m : DenS} {ρ : En} : sWhile mc m ρ = wTurn mc m (sWhile mc m) ρ := by
  have one : ∀ r, sWhile mc m ρ = some r → wTurn mc m (sWhile mc m) ρ = some r := fun r h => by
    obtain ⟨n, hn⟩ := sWhile_run h
    cases n with
    | zero => cases hn
    | succ n => exact wTurn_mono (fun _ _ h => sWhile_of h) hn
  have two : ∀ r, wTurn mc m (sWhile mc m) ρ = some r → sWhile mc m ρ = some r := fun r h => by
    rcases wTurn_at h with q | ⟨ρ2, h2, q⟩
    · exact sWhile_of (n := 1) (q _)
    · obtain ⟨n, hn⟩ := sWhile_run h2
      exact sWhile_of (n := n + 1) (q _ hn)
  cases e : sWhile mc m ρ with
  | some r => exact (one r e).symm
  | none =>
    cases e' : wTurn mc m (sWhile mc m) ρ with
    | none => rfl
    | some r => rw [two r e'] at e; cases e
theorem ss_while {body : List Stmt} {mc : DenB} {m : DenS} (hp : PassesOwn (model X.prog X.w) X.A X.env X.xe) (hc : ST X c mc) (h : SSs X A body m) : SS X A (.While c body [] pos) (sWhile mc m) := by
  obtain ⟨tc, pc, kc⟩ := hc
  obtain ⟨tb, pb, kb⟩ := h
  refine ⟨_, ps_while hp pc pb, fun F H ρ σ o ρ' D R e f => ?_⟩
  obtain ⟨n, hn⟩ := sWhile_run e
  refine ⟨fun k σ1 H1 => ∃ F1 ρ1, Got (gx X) A F H ρ σ F1 H1 ρ1 σ1 ∧ wRun mc m k ρ1 = some (o, ρ'), ⟨n, F, ρ, .refl R, hn⟩, ?_⟩
  rintro k σ1 H1 ⟨F1, ρ1, g1, hk⟩
  cases k with
  | zero => cases hk
  | succ k =>
    obtain ⟨⟨b, ρ2⟩, e1, hk⟩ := bind_some hk
    refine kc F1 H1 ρ1 σ1 b ρ2 _ g1.rel e1 fun F2 H2 q2 => ?_
    have g2 := g1.tr q2.got
    cases b with
    | false =>
      rw [if_neg Bool.false_ne_true] at hk ⊢
      cases hk
      exact f σ1 F2 H2 g2
    | true =>
      rw [if_pos rfl] at hk ⊢
      obtain ⟨⟨o3, ρ3⟩, e3, hk⟩ := bind_some hk
      refine ⟨fun σ3 H3 => ∃ F3 ρ3, Got (gx X) A F H ρ σ F3 H3 ρ3 σ3 ∧ wRun mc m k ρ3 = some (o, ρ'), fun σ3 H3 w => ⟨k, Nat.lt_succ_self k, w⟩, ?_⟩
      refine kb F2 H2 ρ2 σ1 o3 ρ3 _ q2.rel e3 ?_
      cases o3 with
      | nx => exact fun σ4 F4 H4 g4 => ⟨F4, ρ3, g2.tr g4, hk⟩
      | ct => exact fun σ4 F4 H4 g4 => ⟨F4, ρ3, g2.tr g4, hk⟩
      | bk => cases hk; exact fun σ4 F4 H4 g4 => f σ4 F4 H4 (g2.tr g4)
      | rt t => cases hk; exact fun v σ4 F4 H4 g4 => f v σ4 F4 H4 (g2.trV g4)
end VI

set_option Elab.async false
set_option linter.all false
set_option maxRecDepth 100000
set_option maxHeartbeats 4000000
/-! VH: targets, loops over data -/
namespace VI
open PySem PySem.Spec L2
open PyProof.Rows hiding St
variable {X : Cx} {a b c e : Expr} {es : List Expr} {pos : Pos} {A : Nat → Bool}

/-- an item, or a pair that is made for the target alone -/
def RepI (G : Gx) (F : Hp) (d : D) (v : V) : Prop := RepD G F d v ∨ ∃ ds us p, d = .tup ds ∧ v = .ref p ∧ F p = some (.tup us) ∧ RepDs G F ds us
abbrev DenG := D → En → Option En
def SG (X : Cx) (A : Nat → Bool) (R : Gx → Hp → D → V → Prop) (tg : Expr) (g : DenG) : Prop := ∃ r, PG X tg r ∧ ∀ (F H : Hp) (ρ : En) (σ : St) (d : D) (v : V) (ρ' : En) (Q : St → Hp → Prop), Rel (gx X) F H ρ σ → R (gx X) F d v → g d ρ = some ρ' →
  (∀ σ' F' H', Got (gx X) A F H ρ σ F' H' ρ' σ' → Q σ' H') → r v σ H Q
def gNm (i : Nat) : DenG := fun d ρ => some (ρ.set i (some (.lf d)))
theorem sg_name {i : Nat} {x : Str} (hN : X.N.Nodup) (hi : X.N[i]? = some x) (hx : Loc X.env.scope x) (hA : A i = true) (hf : X.fn x = true ∨ X.env.scope.names.lookup x = some .local) : SG X A RepD (.Name x pos) (gNm i) := by
  refine ⟨_, pg_name hN hi hx hf, fun F H ρ σ d v ρ' Q R r e q => ?_⟩
  cases e
  exact q _ _ _ (((PV.same R.sub r).poE R).set hA)
theorem SG.imp {g : DenG} (h : SG X A RepI a g) : SG X A RepD a g := by
  obtain ⟨r, p, k⟩ := h
  exact ⟨r, p, fun F H ρ σ d v ρ' Q R rd e q => k F H ρ σ d v ρ' Q R (.inl rd) e q⟩
abbrev DenGs := List D → En → Option En
def SGs (X : Cx) (A : Nat → Bool) (ts : List Expr) (g : DenGs) : Prop := ∃ r, PGs X ts r ∧ ∀ (F H : Hp) (ρ : En) (σ : St) (ds : List D) (vs : List V) (ρ' : En) (Q : St → Hp → Prop), Rel (gx X) F H ρ σ → RepDs (gx X) F ds vs → g ds ρ = some ρ' →
  (∀ σ' F' H', Got (gx X) A F H ρ σ F' H' ρ' σ' → Q σ' H') → r vs σ H Q
def gNl : DenGs := fun ds ρ => match ds with
  | [] => some ρ
  | _ => none
def gCn (g : DenG) (r : DenGs) : DenGs := fun ds ρ => match ds with
  | d :: ds => (g d ρ).bind fun ρ1 => r ds ρ1
  | [] => none
theorem sgs_nil : SGs X A [] gNl := ⟨_, pgs_nil, fun F H ρ σ ds vs ρ' Q R r e q => by
  cases ds with
  | nil => cases e; cases r; exact ⟨rfl, q σ F H (.refl R)⟩
  | cons _ _ => cases e⟩
theorem sgs_cons {g : DenG} {r : DenGs} (h1 : SG X A RepD a g) (h2 : SGs X A es r) (hs : (assignEach (a :: es) X.env).map (·.2) = assign a X.env :: (assignEach es X.env).map (·.2)) : SGs X A (a :: es) (gCn g r) := by
  obtain ⟨r1, p1, k1⟩ := h1
  obtain ⟨r2, p2, k2⟩ := h2
  refine ⟨_, pgs_cons p1 p2 hs, fun F H ρ σ ds vs ρ' Q R r e q => ?_⟩
  cases ds with
  | nil => cases e
  | cons d ds =>
    obtain ⟨v, w, rfl, ra, rb⟩ := r
    obtain ⟨ρ1, e1, e⟩ := bind_some e
    refine ⟨v, w, rfl, k1 F H ρ σ d v ρ1 _ R ra e1 fun σ1 F1 H1 g1 => ?_⟩
    exact k2 F1 H1 ρ1 σ1 ds w ρ' _ g1.rel (RepDs.le g1.st.le rb) e fun σ2 F2 H2 g2 => q σ2 F2 H2 (g1.tr g2)
def gTp (n : Nat) (g : DenGs) : DenG := fun d ρ => match d with
  | .tup ds => if ds.length = n then g ds ρ else none
  | _ => none
theorem sg_tup {g : DenGs} {n k : Nat} (hc : X.calm = true) (h : SGs X A es g) (hn : (assignEach es X.env).length = n) (hst : (assignEach es X.env).findIdx? (·.1) = none) : SG X A RepI (.Tuple es k pos) (gTp n g) := by
  obtain ⟨r, p, kk⟩ := h
  refine ⟨_, pg_tup hc p hn hst, fun F H ρ σ d v ρ' Q R rd e q => ?_⟩
  unfold gTp at e
  split at e
  · rename_i ds
    split at e
    · rename_i hl
      obtain ⟨a, us, rfl, hq, r1⟩ : ∃ a us, v = .ref a ∧ SqT X.K H a us ∧ RepDs (gx X) F ds us := by
        rcases rd with ⟨a, us, o, rfl, h1, _, r1⟩ | ⟨ds', us, a, e1, rfl, h1, r1⟩
        · exact ⟨a, us, rfl, R.sub.rdT h1 _, r1⟩
        · cases e1
          refine ⟨a, us, rfl, .inl ?_, r1⟩
          exact R.sub.rd (.inl h1)
      exact ⟨a, us, rfl, hq, by rw [← r1.length]; exact hl, kk F H ρ σ ds us ρ' _ R r1 e q⟩
    · cases e
  · cases e

/-! ### what is walked -/
structure WalkD (G : Gx) (R : Gx → Hp → D → V → Prop) (F : Hp) (J : It) (ds : List D) : Prop where
  go : ∀ i H F1, Le F F1 → Sub F1 H → i < ds.length → J.go i H
  yl : ∀ i H F1 x H', Le F F1 → Sub F1 H → i < ds.length → J.yld i H x H' → ∃ d F2, ds[i]? = some d ∧ Le F1 F2 ∧ Sub F2 H' ∧ (∀ a u, H a = some u → H' a = some u) ∧ (∀ a, F2 a ≠ none → F1 a ≠ none ∨ H a = none) ∧ R G F2 d x
  stop : ∀ H F1, Le F F1 → Sub F1 H → J.stop ds.length H
abbrev DenI := En → Option (List D × En)
def SI (X : Cx) (R : Gx → Hp → D → V → Prop) (tg e : Expr) (m : DenI) : Prop := ∃ wi, PI X tg e wi ∧ ∀ (F H : Hp) (ρ : En) (σ : St) (ds : List D) (ρ' : En) (Q : It → Hp → Prop), Rel (gx X) F H ρ σ → m ρ = some (ds, ρ') →
  (∀ J F' H', PoN (gx X) F H ρ σ F' H' ρ' → WalkD (gx X) R F' J ds → Q J H') → wi σ H Q
theorem PI.or {tg : Expr} {w1 w2 : TI} (h1 : PI X tg e w1) (h2 : PI X tg e w2) : PI X tg e (fun σ H R => w1 σ H R ∨ w2 σ H R) := ⟨fun pins s σ H R I h => h.elim (h1.run pins s σ H R I) (h2.run pins s σ H R I)⟩
/-- a range object as a value, walked -/
def iRngV (te : TE) : TI := fun σ H R => te σ H fun v H1 => ∃ p a b c n, v = .ref p ∧ H1 p = some (rgO p a b c) ∧ RgC a b c n ∧ R (Itc a c n) H1
theorem pi_rngV {tg : Expr} {te : TE} (he : PE X e te) : PI X tg e (iRngV te) := by
  refine ⟨fun pins s σ H R I h => thn (he.run pins s σ H _ I h) fun v s1 ⟨x, H1, I1, r1, p, a, b, c, n, ex, hp, ⟨c0, c1, c2, c3⟩, q⟩ => ?_⟩
  subst ex
  cases r1
  obtain ⟨⟨t, u, w, hr⟩, _⟩ := I1.hok p _ hp
  refine wpAny_pyIter_range hr c2 ?_
  refine pi_one (tk := s1.toks) I1 _ (turn_rangeC _ a c n) ?_ q
  have e1 : a + ((0 : Nat) : Int) * c = a := by simp
  have e2 : (n : Int) - ((0 : Nat) : Int) = Builtin.Range.rangeSize a b c := by rw [c3]; simp
  show IsRangeIter _ _ (a + ((0 : Nat) : Int) * c) ((n : Int) - ((0 : Nat) : Int)) c
  rw [e1, e2]
  exact Heap.get?_push_size _ rfl
def signs (x : Str) : List D := x.cps.toList.map fun c => .str ⟨#[c]⟩
def iterD : D → Option (List D)
  | .lst xs => some xs
  | .tup xs => some xs
  | .scr ns => some (ns.map D.int)
  | .rng a _ c n => some ((rngI a c n).map D.int)
  | .str x => some (signs x)
  | _ => none
theorem getLt {α : Type} {l : List α} {i : Nat} (h : i < l.length) : ∃ x, l[i]? = some x := ⟨l[i], List.getElem?_eq_getElem h⟩
def dIter (m : Den) : DenI := fun ρ => (dD m ρ).bind fun p => (iterD p.1).bind fun ds => some (ds, p.2)
theorem si_val {tg : Expr} {m : Den} (h : SE X e m) : SI X RepD tg e (dIter m) := by
  obtain ⟨te, pe, k⟩ := h.d
  refine ⟨_, PI.or (pi_list pe) (PI.or (pi_tup pe) (PI.or (pi_rngV pe) (pi_str pe))), fun F H ρ σ ds ρ' Q R e q => ?_⟩
  obtain ⟨⟨d, ρ1⟩, e1, e⟩ := bind_some e
  obtain ⟨ds', e2, e⟩ := bind_some e
  cases e
  have lists : ∀ {F' H' : Hp} {p : Addr} {us : List V} (J : It) (hJ : J = Itl X.K p ∨ J = Itt X.K p) (hq : ∀ F1 H1, Le F' F1 → Sub F1 H1 → (J = Itl X.K p ∧ SqL X.K H1 p us) ∨ (J = Itt X.K p ∧ SqT X.K H1 p us)) (uniqL : True) (r : RepDs (gx X) F' ds us), WalkD (gx X) RepD F' J ds := by
    intro F' H' p us J hJ hq _ r
    have hl := r.length
    refine ⟨fun i H1 F1 l s hi => ?_, fun i H1 F1 x H2 l s hi y => ?_, fun H1 F1 l s => ?_⟩
    · obtain ⟨u, hu⟩ := getLt (l := us) (i := i) (by omega)
      rcases hq F1 H1 l s with ⟨rfl, z⟩ | ⟨rfl, z⟩
      · exact ⟨us, u, z, hu⟩
      · exact ⟨us, u, z, hu⟩
    · obtain ⟨d, hd⟩ := getLt (l := ds) (i := i) hi
      obtain ⟨u, hu, ru⟩ := r.get hd
      have fin : H2 = H1 ∧ us[i]? = some x := by
        rcases hq F1 H1 l s with ⟨rfl, z⟩ | ⟨rfl, z⟩
        · exact ⟨y.1, y.2 us z⟩
        · exact ⟨y.1, y.2 us z⟩
      obtain ⟨rfl, hx⟩ := fin
      rw [hu] at hx; cases hx
      exact ⟨d, F1, hd, Le.refl _, s, fun _ _ h => h, fun _ h => .inl h, RepD.le l ru⟩
    · rcases hq F1 H1 l s with ⟨rfl, z⟩ | ⟨rfl, z⟩
      · exact ⟨us, z, by omega⟩
      · exact ⟨us, z, by omega⟩
  cases d with
  | lst xs =>
    cases e2
    refine .inl (k F H ρ σ _ _ _ R e1 fun v F' H' po => ?_)
    obtain ⟨p, us, rfl, h1, r1⟩ := id po.rep
    refine ⟨p, rfl, ⟨us, SqL.of (po.rel.sub.lst h1)⟩, q _ F' H' po.n (lists (H' := H') (p := p) _ (.inl rfl) (fun F1 H1 l s => .inl ⟨rfl, SqL.of (s.lst (l _ _ h1))⟩) trivial r1)⟩
  | tup xs =>
    cases e2
    refine .inr (.inl (k F H ρ σ _ _ _ R e1 fun v F' H' po => ?_))
    obtain ⟨p, us, o, rfl, h1, _, r1⟩ := id po.rep
    refine ⟨p, rfl, ⟨us, po.rel.sub.rdT h1 _⟩, q _ F' H' po.n (lists (H' := H') (p := p) _ (.inr rfl) (fun F1 H1 l s => .inr ⟨rfl, s.rdT (l _ _ h1) _⟩) trivial r1)⟩
  | scr ns =>
    cases e2
    refine .inl (k F H ρ σ _ _ _ R e1 fun v F' H' po => ?_)
    obtain ⟨p, rfl, h1⟩ := id po.rep
    refine ⟨p, rfl, ⟨_, po.rel.sub.sqL h1⟩, q _ F' H' po.n (lists (H' := H') (p := p) _ (.inl rfl) (fun F1 H1 l s => .inl ⟨rfl, s.sqL (l.sqL h1)⟩) trivial RepDs.ints)⟩
  | rng a b c n =>
    cases e2
    refine .inr (.inr (.inl (k F H ρ σ _ _ _ R e1 fun v F' H' po => ?_)))
    obtain ⟨p, rfl, h1, hc⟩ := id po.rep
    have hl : ((rngI a c n).map D.int).length = n := by rw [List.length_map, rngI, List.length_map, List.length_range]
    refine ⟨p, a, b, c, n, rfl, po.rel.sub.ext h1, hc, q _ F' H' po.n ⟨fun i H1 F1 l s hi => by rw [hl] at hi; exact hi, fun i H1 F1 x H2 l s hi y => ?_, fun H1 F1 l s => by rw [hl]; exact Nat.le_refl n⟩⟩
    obtain ⟨rfl, rfl⟩ := y
    rw [hl] at hi
    refine ⟨.int (a + i * c), F1, ?_, Le.refl _, s, fun _ _ h => h, fun _ h => .inl h, rfl⟩
    rw [rngI, List.map_map, List.getElem?_map, List.getElem?_range hi]
    rfl
  | str x =>
    cases e2
    refine .inr (.inr (.inr (k F H ρ σ _ _ _ R e1 fun v F' H' po => ?_)))
    obtain rfl := po.rep
    have hl : (signs x).length = x.cps.size := by rw [signs, List.length_map, Array.length_toList]
    refine ⟨x, rfl, q _ F' H' po.n ⟨fun i H1 F1 l s hi => by rw [hl] at hi; exact hi, fun i H1 F1 y H2 l s hi z => ?_, fun H1 F1 l s => by rw [hl]; exact Nat.le_refl _⟩⟩
    obtain ⟨rfl, c, hc, rfl⟩ := z
    refine ⟨.str ⟨#[c]⟩, F1, ?_, Le.refl _, s, fun _ _ h => h, fun _ h => .inl h, rfl⟩
    rw [signs, List.getElem?_map, Array.getElem?_toList, hc]
    rfl
  | _ => cases e2

/-! ### for -/
def fRun (g : DenG) (m : DenS) : List D → DenS
  | [], ρ => some (.nx, ρ)
  | d :: ds, ρ => (g d ρ).bind fun ρ1 => (m ρ1).bind (wOut (fRun g m ds))
def sFor (mi : DenI) (g : DenG) (m : DenS) : DenS := fun ρ => (mi ρ).bind fun p => fRun g m p.1 p.2
theorem ss_for {R : Gx → Hp → D → V → Prop} {tg iter : Expr} {body : List Stmt} {mi : DenI} {g : DenG} {m : DenS} (hp : PassesOwn (model X.prog X.w) X.A X.env X.xe) (hc : X.calm = true) (hi : SI X R tg iter mi) (hg : SG X A R tg g) (hb : SSs X A body m)
    (hs : ∀ x, foldedSetIterable iter X.env x = pure x) : SS X A (.For tg iter body [] pos) (sFor mi g m) := by
  obtain ⟨wi, pi, ki⟩ := hi
  obtain ⟨rg, pg, kg⟩ := hg
  obtain ⟨tb, pb, kb⟩ := hb
  refine ⟨_, ps_for hp hc pi pg pb hs, fun F H ρ σ o ρ' D R0 e f => ?_⟩
  obtain ⟨⟨ds, ρ0⟩, e0, e⟩ := bind_some e
  refine ki F H ρ σ ds ρ0 _ R0 e0 fun J F0 H0 p0 W => ?_
  refine ⟨fun i k σ1 H1 => k = ds.length - i ∧ i ≤ ds.length ∧ ∃ F1 ρ1, Le F0 F1 ∧ Got (gx X) A F H ρ σ F1 H1 ρ1 σ1 ∧ fRun g m (ds.drop i) ρ1 = some (o, ρ'), ⟨ds.length - 0, rfl, Nat.zero_le _, F0, ρ0, Le.refl _, p0.got, e⟩, ?_⟩
  rintro i k σ1 H1 ⟨rfl, hi, F1, ρ1, l1, g1, e1⟩
  by_cases hlt : i < ds.length
  · obtain ⟨d, hd⟩ := getLt hlt
    have e1 : fRun g m (d :: ds.drop (i + 1)) ρ1 = some (o, ρ') := by
      have : ds.drop i = d :: ds.drop (i + 1) := by
        rw [List.drop_eq_getElem_cons hlt]
        rw [List.getElem?_eq_getElem hlt] at hd
        cases hd
        rfl
      rw [this] at e1
      exact e1
    obtain ⟨ρ2, e2, e1⟩ := bind_some e1
    obtain ⟨⟨o3, ρ3⟩, e3, e1⟩ := bind_some e1
    refine .inr ⟨W.go i H1 F1 l1 g1.rel.sub hlt, fun σ2 H2 => i + 1 ≤ ds.length ∧ ∃ F2 ρ2, Le F0 F2 ∧ Got (gx X) A F H ρ σ F2 H2 ρ2 σ2 ∧ fRun g m (ds.drop (i + 1)) ρ2 = some (o, ρ'), fun σ2 H2 w => ⟨ds.length - (i + 1), by omega, rfl, w⟩, fun x H2 y => ?_⟩
    obtain ⟨d', F2, hd', l2, s2, fr, fz, rx⟩ := W.yl i H1 F1 x H2 l1 g1.rel.sub hlt y
    rw [hd] at hd'; cases hd'
    have step : Got (gx X) A F1 H1 ρ1 σ1 F2 H2 ρ1 σ1 := by
      refine ⟨⟨l2, fun a u h _ => fr a u h, fun _ h => .inl h, fun a z => (fz a z).imp_right .inr⟩, g1.rel.go l2 s2 fun a q => ?_, Keep.refl⟩
      obtain ⟨⟨u, eu⟩, fu⟩ := g1.rel.own_at q
      refine ⟨(fr a u eu).trans eu.symm, ?_⟩
      cases z : F2 a with
      | none => rfl
      | some w =>
        rcases fz a (by rw [z]; simp) with z | z
        · exact absurd fu z
        · rw [eu] at z; cases z
    have g2 := g1.tr step
    refine kg F2 H2 ρ1 σ1 d x ρ2 _ step.rel rx e2 fun σ3 F3 H3 g3 => ?_
    have g4 := g2.tr g3
    refine kb F3 H3 ρ2 σ3 o3 ρ3 _ g3.rel e3 ?_
    have l02 := (l1.trans l2).trans g3.st.le
    cases o3 with
    | nx => exact fun σ4 F4 H4 g5 => ⟨hlt, F4, ρ3, l02.trans g5.st.le, g4.tr g5, e1⟩
    | ct => exact fun σ4 F4 H4 g5 => ⟨hlt, F4, ρ3, l02.trans g5.st.le, g4.tr g5, e1⟩
    | bk => cases e1; exact fun σ4 F4 H4 g5 => f σ4 F4 H4 (g4.tr g5)
    | rt t => cases e1; exact fun v σ4 F4 H4 g5 => f v σ4 F4 H4 (g4.trV g5)
  · have ei : i = ds.length := by omega
    subst ei
    rw [List.drop_length] at e1
    cases e1
    exact .inl ⟨W.stop H1 F1 l1 g1.rel.sub, f σ1 F1 H1 g1⟩
end VI

set_option Elab.async false
set_option linter.all false
set_option maxRecDepth 100000
set_option maxHeartbeats 4000000
/-! VJ: a slot's own list or dict is changed -/
namespace VI
open PySem PySem.Spec L2
open PyProof.Rows hiding St
variable {X : Cx} {a b c e : Expr} {es : List Expr} {pos : Pos} {A : Nat → Bool}

def here (i : Nat) (ρ : En) : Option T := ρ[i]?.bind id
theorem here_some {i : Nat} {ρ : En} {t : T} (h : here i ρ = some t) : ρ[i]? = some (some t) := by
  unfold here at h
  obtain ⟨o, e, h⟩ := bind_some h
  cases o with
  | none => cases h
  | some u => cases h; exact e
theorem Rel.here {G : Gx} {F H : Hp} {ρ : En} {σ : St} (R : Rel G F H ρ σ) {i : Nat} {t : T} (h : here i ρ = some t) : ∃ v, σ[i]? = some (some v) ∧ RepT G F H t v := R.rep i t (here_some h)
theorem Got.upd {G : Gx} {F H F1 H1 : Hp} {ρ ρ1 : En} {σ σ1 : St} (g : Got G A F H ρ σ F1 H1 ρ1 σ1) {i : Nat} {t0 t1 : T} {p : Addr} {u : HO} (h : VI.here i ρ1 = some t0) (o : t0.own = true) (hs : σ1[i]? = some (some (.ref p))) (o1 : t1.own = true)
    (r : RepT G F1 (L2.upd H1 p u) t1 (.ref p)) : Got G A F H ρ σ F1 (L2.upd H1 p u) (ρ1.set i (some t1)) σ1 := by
  obtain ⟨r1, s1⟩ := g.rel.upd (here_some h) o hs o1 r
  exact ⟨g.st.trans s1, r1, g.kp⟩
def lstT : T → Option (List D)
  | .lst xs => some xs
  | _ => none
theorem lstT_some {t : T} {xs : List D} (h : lstT t = some xs) : t = .lst xs := by
  cases t with
  | lst ys => cases h; rfl
  | _ => cases h

/-! ### x.append(e) -/
def sAppend (i : Nat) (m : Den) : DenS := fun ρ => ((here i ρ).bind lstT).bind fun _ => (dD m ρ).bind fun p => ((here i p.2).bind lstT).bind fun xs => if xs.length < sizeLine then some (.nx, p.2.set i (some (.lst (xs ++ [p.1])))) else none
theorem attr_name {x m : Str} {p : Pos} {w : Sem Value} : attributeBase (.Name x p) m X.env w = w := rfl
theorem ss_append {i : Nat} {x : Str} {m : Den} {p apos cpos : Pos} (hN : X.N[i]? = some x) (hv : Vis X.env.scope x) (hd : (x == ("__debug__" : Str)) = false) (hcd : (x == ("__classdict__" : Str)) = false) (h : SE X e m)
    (hfew : ((backTo cpos (starEach [e] X.env)).all (fun x => !x.1) && (backToKw cpos (keywordEach [] X.env)).all (fun x => x.1.isSome) && decide (([e] : List Expr).length + ([] : List Keyword).length + (if ([] : List Keyword).isEmpty then 0 else 1) < 30)) = true)
    (hline : (apos.endLine == cpos.line) = true) (hs : starEach [e] X.env = (false, eval e X.env) :: starEach [] X.env) :
    SS X A (.Expr (.Call (.Attribute (.Name x p) "append" apos) [e] [] cpos) pos) (sAppend i m) := by
  obtain ⟨te, pe, k⟩ := h.d
  refine ⟨_, ps_expr (pe_bm PySem.F.plainAttrs_list PySem.F.slot_list_append PySem.F.type_list_append mt_append (pe_var hN hv hd hcd) (pa_cons pe pa_nil hs) rfl hfew hline hs rfl) rfl, fun F H ρ σ o ρ' D R e f => ?_⟩
  obtain ⟨xs0, e0, e⟩ := bind_some e
  obtain ⟨⟨d, ρ1⟩, e1, e⟩ := bind_some e
  obtain ⟨xs, e2, e⟩ := bind_some e
  obtain ⟨hz, e⟩ := ite_some e
  cases e
  obtain ⟨t0, h0, e0⟩ := bind_some e0
  obtain rfl := lstT_some e0
  obtain ⟨v, hsv, p0, us0, rfl, hH0, hF0, r0⟩ := R.here h0
  refine ⟨.ref p0, hsv, .inl ⟨rfl, us0, SqL.of hH0⟩, ?_⟩
  refine k F H ρ σ d ρ1 _ R e1 fun v1 F1 H1 po => ?_
  obtain ⟨t1, h1, e2⟩ := bind_some e2
  obtain rfl := lstT_some e2
  obtain ⟨v', hsv', p1, us, rfl, hH1, hF1, r1⟩ := po.rel.here h1
  rw [hsv] at hsv'; cases hsv'
  refine ⟨p0, us, v1, rfl, rfl, hH1, by rw [← r1.length]; exact hz, ?_⟩
  exact f σ F1 _ (po.n.got.upd h1 rfl hsv rfl ⟨p0, _, rfl, upd_same, hF1, r1.append (RepDs.one po.rep)⟩)

/-! ### x.pop(), x.pop(i) -/
def dPop (i : Nat) : Den := fun ρ => ((here i ρ).bind lstT).bind fun xs => (xs[xs.length - 1]?).bind fun d => some (.lf d, ρ.set i (some (.lst xs.dropLast)))
theorem Rel.updE {G : Gx} {F H : Hp} {ρ : En} {σ : St} {d : D} {v : V} (R : Rel G F H ρ σ) {i : Nat} {t0 t1 : T} {p : Addr} {u : HO} (h : VI.here i ρ = some t0) (o : t0.own = true) (hs : σ[i]? = some (some (.ref p))) (o1 : t1.own = true)
    (r : RepT G F (L2.upd H p u) t1 (.ref p)) (rd : RepD G F d v) : PoE G F H ρ σ (.lf d) v F (L2.upd H p u) (ρ.set i (some t1)) := by
  obtain ⟨r1, s1⟩ := R.upd (here_some h) o hs o1 r
  exact ⟨s1, r1, rd, fun _ o => nomatch o⟩
theorem se_pop {i : Nat} {x : Str} {p apos cpos : Pos} (hN : X.N[i]? = some x) (hv : Vis X.env.scope x) (hd : (x == ("__debug__" : Str)) = false) (hcd : (x == ("__classdict__" : Str)) = false)
    (hline : (apos.endLine == cpos.line) = true) : SE X (.Call (.Attribute (.Name x p) "pop" apos) [] [] cpos) (dPop i) := by
  refine ⟨_, pe_bm0 PySem.F.plainAttrs_list PySem.F.slot_list_pop PySem.F.type_list_pop mt_pop (pe_var hN hv hd hcd) rfl hline, fun F H ρ σ t ρ' Q R e q => ?_⟩
  obtain ⟨xs, e0, e⟩ := bind_some e
  obtain ⟨d, e1, e⟩ := bind_some e
  cases e
  obtain ⟨t0, h0, e0⟩ := bind_some e0
  obtain rfl := lstT_some e0
  obtain ⟨v, hsv, p0, us, rfl, hH, hF, r⟩ := R.here h0
  obtain ⟨y, ey, ry⟩ := r.get e1
  rw [r.length] at ey
  exact ⟨.ref p0, hsv, .inl ⟨rfl, us, SqL.of hH⟩, p0, us, y, rfl, rfl, hH, ey, q y _ _ (R.updE h0 rfl hsv rfl ⟨p0, _, rfl, upd_same, hF, r.dropLast⟩ ry)⟩
def dPopAt (i : Nat) (m : Den) : Den := fun ρ => ((here i ρ).bind lstT).bind fun _ => (dD m ρ).bind fun p => match p.1 with
  | .int k => ((here i p.2).bind lstT).bind fun xs => (ixN xs.length k).bind fun j => (xs[j]?).bind fun d => if -(2 ^ 63) ≤ k ∧ k < 2 ^ 63 then some (.lf d, p.2.set i (some (.lst (xs.eraseIdx j)))) else none
  | _ => none
theorem se_popAt {i : Nat} {x : Str} {m : Den} {p apos cpos : Pos} (hN : X.N[i]? = some x) (hv : Vis X.env.scope x) (hd : (x == ("__debug__" : Str)) = false) (hcd : (x == ("__classdict__" : Str)) = false) (h : SE X e m)
    (hfew : ((backTo cpos (starEach [e] X.env)).all (fun x => !x.1) && (backToKw cpos (keywordEach [] X.env)).all (fun x => x.1.isSome) && decide (([e] : List Expr).length + ([] : List Keyword).length + (if ([] : List Keyword).isEmpty then 0 else 1) < 30)) = true)
    (hline : (apos.endLine == cpos.line) = true) (hs : starEach [e] X.env = (false, eval e X.env) :: starEach [] X.env) : SE X (.Call (.Attribute (.Name x p) "pop" apos) [e] [] cpos) (dPopAt i m) := by
  obtain ⟨te, pe, k⟩ := h.d
  refine ⟨_, pe_bm PySem.F.plainAttrs_list PySem.F.slot_list_pop PySem.F.type_list_pop mt_popAt (pe_var hN hv hd hcd) (pa_cons pe pa_nil hs) rfl hfew hline hs rfl, fun F H ρ σ t ρ' Q R e q => ?_⟩
  obtain ⟨xs0, e0, e⟩ := bind_some e
  obtain ⟨⟨dk, ρ1⟩, e1, e⟩ := bind_some e
  obtain ⟨t0, h0, e0⟩ := bind_some e0
  obtain rfl := lstT_some e0
  obtain ⟨v, hsv, p0, us0, rfl, hH0, hF0, r0⟩ := R.here h0
  cases dk with
  | int k' =>
    obtain ⟨xs, e2, e⟩ := bind_some e
    obtain ⟨j, e3, e⟩ := bind_some e
    obtain ⟨d, e4, e⟩ := bind_some e
    obtain ⟨⟨b1, b2⟩, e⟩ := ite_some e
    cases e
    refine ⟨.ref p0, hsv, .inl ⟨rfl, us0, SqL.of hH0⟩, ?_⟩
    refine k F H ρ σ _ ρ1 _ R e1 fun v1 F1 H1 po => ?_
    obtain ⟨t1, h1, e2⟩ := bind_some e2
    obtain rfl := lstT_some e2
    obtain ⟨v', hsv', p1, us, rfl, hH1, hF1, r1⟩ := po.rel.here h1
    rw [hsv] at hsv'; cases hsv'
    obtain ⟨y, ey, ry⟩ := r1.get e4
    rw [r1.length] at e3
    obtain ⟨s1, s2, _, _⟩ := ixN_seq e3
    obtain rfl := po.rep
    exact ⟨p0, us, k', j, y, rfl, rfl, hH1, b1, b2, s1, ey, q y _ _ (po.n.trE (po.rel.updE h1 rfl hsv rfl ⟨p0, _, rfl, upd_same, hF1, r1.erase j⟩ ry))⟩
  | _ => cases e

/-! ### x[i] = e, x[i] op= e -/
def dset {κ : Type} [DecidableEq κ] : List κ → List D → κ → D → List D
  | k :: ks, d :: ds, x, y => (if k = x then y else d) :: dset ks ds x y
  | _, ds, _, _ => ds
def setT : T → D → D → Option T
  | .lst xs, .int k, d => (ixN xs.length k).bind fun j => some (.lst (xs.set j d))
  | .dct ks ds, k, d => (keyD k).bind fun k => if ks.length < sizeLine then some (if (ks.any fun j => decide (j = k)) = true then .dct ks (dset ks ds k d) else .dct (ks ++ [k]) (ds ++ [d])) else none
  | _, _, _ => none
theorem setT_own {t : T} {k d : D} {t' : T} (h : setT t k d = some t') : t.own = true ∧ t'.own = true := by
  cases t with
  | lst xs =>
    cases k with
    | int i => obtain ⟨j, _, h⟩ := bind_some h; cases h; exact ⟨rfl, rfl⟩
    | _ => cases h
  | dct ks ds =>
    have h : ((keyD k).bind fun k => if ks.length < sizeLine then some (if (ks.any fun j => decide (j = k)) = true then T.dct ks (dset ks ds k d) else .dct (ks ++ [k]) (ds ++ [d])) else none) = some t' := h
    obtain ⟨j, _, h⟩ := bind_some h
    obtain ⟨_, rfl⟩ := ite_some h
    refine ⟨rfl, ?_⟩
    split <;> rfl
  | _ => cases h
theorem PSet.or {r r' : TSet} (h : PSet X r) (h' : PSet X r') : PSet X (fun o i v H Q => r o i v H Q ∨ r' o i v H Q) := fun pins s σ H o i v ov iv u Q I ro ri rv q => q.elim (h pins s σ H o i v ov iv u Q I ro ri rv) (h' pins s σ H o i v ov iv u Q I ro ri rv)
def rSetD : TSet := fun o i v H Q => ∃ p H', o = .ref p ∧ DPut H p i v H' ∧ Q H'
theorem set_dict (hu : X.A.units + 1 < cLine) : PSet X rSetD := by
  intro pins s σ H o i v ov iv u Q I ro ri rv h
  obtain ⟨p, H', rfl, g, q⟩ := h
  cases ro
  exact d_setItem hu I g ri rv fun s' I' => ⟨H', I', q⟩
def rSetAll : TSet := fun o i v H Q => rSetL o i v H Q ∨ rSetD o i v H Q
theorem dset_zip {κ : Type} [DecidableEq κ] (x : κ) (v : V) : ∀ (ks : List κ) (us : List V), ks.length = us.length → ∃ us', (ks.zip us).map (fun kv => if kv.1 = x then (kv.1, v) else kv) = ks.zip us' ∧ ks.length = us'.length ∧
    ∀ (G : Gx) (F : Hp) (ds : List D) (d : D), RepDs G F ds us → RepD G F d v → RepDs G F (dset ks ds x d) us'
  | [], [], _ => ⟨[], rfl, rfl, fun G F ds d r _ => by cases ds with | nil => exact r | cons _ _ => obtain ⟨_, _, e, _⟩ := r; cases e⟩
  | [], _ :: _, l => by cases l
  | _ :: _, [], l => by cases l
  | k :: ks, u :: us, l => by
    obtain ⟨us', e1, e2, e3⟩ := dset_zip x v ks us (by simpa using l)
    refine ⟨(if k = x then v else u) :: us', ?_, by simp [e2], fun G F ds d r rd => ?_⟩
    · simp only [List.zip_cons_cons, List.map_cons, e1]
      by_cases h : k = x
      · simp [h]
      · simp [h]
    · cases ds with
      | nil => cases r
      | cons d0 ds =>
        obtain ⟨u', w, e, r1, r2⟩ := r
        cases e
        refine ⟨_, _, rfl, ?_, e3 G F ds d r2 rd⟩
        by_cases h : k = x
        · rw [if_pos h, if_pos h]; exact rd
        · rw [if_neg h, if_neg h]; exact r1
theorem run_set {G : Gx} {F H : Hp} {ρ : En} {σ : St} {i : Nat} {t t' : T} {k d : D} {vk vd : V} {p : Addr} (R : Rel G F H ρ σ) (h : VI.here i ρ = some t) (hs : σ[i]? = some (some (.ref p))) (rk : RepD G F k vk) (rd : RepD G F d vd) (e : setT t k d = some t') {Q : Hp → Prop}
    (q : ∀ u, RepT G F (L2.upd H p u) t' (.ref p) → Q (L2.upd H p u)) : rSetAll (.ref p) vk vd H Q := by
  obtain ⟨v', hsv', r⟩ := R.here h
  rw [hs] at hsv'; cases hsv'
  cases t with
  | lst xs =>
    cases k with
    | int j0 =>
      obtain ⟨j, e1, e⟩ := bind_some e
      cases e
      obtain ⟨p', us, e2, hH, hF, r1⟩ := r
      cases e2
      rw [r1.length] at e1
      exact .inl ⟨p, us, j0, j, rfl, rk, hH, e1, q _ ⟨p, _, rfl, upd_same, hF, r1.set j rd⟩⟩
    | _ => cases e
  | dct ks ds =>
    have e : ((keyD k).bind fun k => if ks.length < sizeLine then some (if (ks.any fun j => decide (j = k)) = true then T.dct ks (dset ks ds k d) else .dct (ks ++ [k]) (ds ++ [d])) else none) = some t' := e
    obtain ⟨x, e1, e⟩ := bind_some e
    obtain ⟨hz, rfl⟩ := ite_some e
    obtain ⟨p', us, e2, hH, hF, l, r1⟩ := r
    cases e2
    have ek := keyD_rep e1 rk
    have hl : (ks.zip us).length < sizeLine := by rw [List.length_zip, ← l, Nat.min_self]; exact hz
    refine .inr ⟨p, _, rfl, .inl ⟨_, x, hH, ek, hl, rfl⟩, q _ ?_⟩
    have ha := any_zip (us := us) x l
    by_cases hx : (ks.any fun j => decide (j = x)) = true
    · rw [if_pos hx]
      obtain ⟨us', f1, f2, f3⟩ := dset_zip x vd ks us l
      refine ⟨p, us', rfl, ?_, hF, f2, f3 G F ds d r1 rd⟩
      rw [upd_same, ← f1]
      unfold putK
      rw [valV_any, ha, if_pos hx]
    · rw [if_neg hx]
      refine ⟨p, us ++ [vd], rfl, ?_, hF, by simp [l], r1.append (RepDs.one rd)⟩
      rw [upd_same]
      unfold putK
      rw [valV_any, ha, if_neg hx, List.zip_append l]
      rfl
  | _ => cases e
def sSetIx (i : Nat) (mi me : Den) : DenS := fun ρ => (dD me ρ).bind fun p => (here i p.2).bind fun _ => (dD mi p.2).bind fun q => (here i q.2).bind fun t => (setT t q.1 p.1).bind fun t' => some (.nx, q.2.set i (some t'))
theorem plainSub {p : Pos} (hix : ∀ s l u v, b ≠ .Slice s l u v) : ∀ v, assign (.Subscript a b p) X.env v = (do
      let ov ← holding [v] (eval a X.env)
      let iv ← holding [v, ov] (eval b X.env)
      standAt p
      holding [v, ov, iv] (setItem ov iv v)
      release [v, ov, iv] []) := by
  intro v
  cases b <;> first | rfl | exact absurd rfl (hix _ _ _ _)
theorem ss_setIx {i : Nat} {x : Str} {mi me : Den} {p p2 : Pos} (hu : X.A.units + 1 < cLine) (hN : X.N[i]? = some x) (hv : Vis X.env.scope x) (hd : (x == ("__debug__" : Str)) = false) (hcd : (x == ("__classdict__" : Str)) = false) (hi : SE X b mi) (he : SE X e me)
    (ha : ∀ v, assign (.Subscript (.Name x p) b p2) X.env v = (do
      let ov ← holding [v] (eval (.Name x p) X.env)
      let iv ← holding [v, ov] (eval b X.env)
      standAt p2
      holding [v, ov, iv] (setItem ov iv v)
      release [v, ov, iv] []))
    (hs : swapsWithSole [.Subscript (.Name x p) b p2] e pos.line X.env = pure false) (hw : swappedStores [.Subscript (.Name x p) b p2] e X.env = pure none) : SS X A (.Assign [.Subscript (.Name x p) b p2] e pos) (sSetIx i mi me) := by
  obtain ⟨te, pe, ke⟩ := he.d
  obtain ⟨ti, pi, ki⟩ := hi.d
  refine ⟨_, ps_asg pe (pg_sub (pe_var hN hv hd hcd) pi (PSet.or set_list (set_dict hu)) ha) hs hw rfl, fun F H ρ σ o ρ' D R e f => ?_⟩
  obtain ⟨⟨d, ρ1⟩, e1, e⟩ := bind_some e
  obtain ⟨t1, e2, e⟩ := bind_some e
  obtain ⟨⟨k, ρ2⟩, e3, e⟩ := bind_some e
  obtain ⟨t, e4, e⟩ := bind_some e
  obtain ⟨t', e5, e⟩ := bind_some e
  cases e
  refine ke F H ρ σ d ρ1 _ R e1 fun vd F1 H1 p1 => ?_
  obtain ⟨v0, hs0, r0⟩ := p1.rel.here e2
  refine ⟨v0, hs0, ki F1 H1 ρ1 σ k ρ2 _ p1.rel e3 fun vk F2 H2 p2 => ?_⟩
  obtain ⟨o1, o2⟩ := setT_own e5
  obtain ⟨v2, hs2, r2⟩ := p2.rel.here e4
  rw [hs0] at hs2; cases hs2
  obtain ⟨pa, u, ev, _, _, _, _⟩ := r2.at_ o1
  subst ev
  exact run_set p2.rel e4 hs0 p2.rep (RepD.le p2.st.le p1.rep) e5 fun u r => f σ F2 _ ((p1.n.tr p2.n).got.upd e4 o1 hs0 o2 r)

/-! ### in place -/
def iaddD : D → D → Option T
  | .int i, .int j => some (.lf (.int (i + j)))
  | .str x, .str y => if x.length + y.length ≤ sizeLine then some (.lf (.str (x ++ y))) else none
  | _, _ => none
theorem iop_str : OpR X (inplaceOp .Add) (fun x y H Q => ∃ i j, x = .str i ∧ y = .str j ∧ i.length + j.length ≤ sizeLine ∧ Q (.str (i ++ j)) H) := by
  intro pins s σ H x y v u Q I rx ry h
  obtain ⟨i, j, rfl, rfl, hz, q⟩ := h
  obtain ⟨t, rfl⟩ := rx
  obtain ⟨t', rfl⟩ := ry
  exact iadd_str (fun t2 tk => ⟨.str _, H, I.tok _, ⟨_, rfl⟩, q⟩) hz
theorem od_iadd : OpD X (inplaceOp .Add) iaddD := by
  refine ⟨_, OpR.or (r := rI0 fun i j => .int (i + j)) (fun pins s σ H x y v u Q I r1 r2 h => ip_add pins s σ H x y v u Q I r1 r2 h) iop_str, fun F H x y dx dy t Q s rx ry e q => ?_⟩
  cases dx with
  | int i =>
    cases dy with
    | int j => cases e; exact .inl ⟨i, j, rx, ry, q _ F H (PV.same s rfl)⟩
    | _ => cases e
  | str i =>
    cases dy with
    | str j => obtain ⟨c, rfl⟩ := ite_some e; exact .inr ⟨i, j, rx, ry, c, q _ F H (PV.same s rfl)⟩
    | _ => cases e
  | _ => cases e
theorem od_isub : OpD X (inplaceOp .Sub) subD := by
  refine ⟨rI0 fun i j => .int (i - j), fun pins s σ H x y v u Q I r1 r2 h => ip_sub pins s σ H x y v u Q I r1 r2 h, fun F H x y dx dy t Q s rx ry e q => ?_⟩
  obtain ⟨i, j, rfl, rfl, e⟩ := intsD_some e
  cases e
  exact ⟨i, j, rx, ry, q _ F H (PV.same s rfl)⟩
def imulD : D → D → Option T := intsD fun i j => if smallI i = true ∨ smallI j = true then some (.lf (.int (i * j))) else none
theorem od_imul : OpD X (inplaceOp .Mult) imulD := by
  refine ⟨rI CMul fun i j => .int (i * j), fun pins s σ H x y v u Q I r1 r2 h => ?_, fun F H x y dx dy t Q s rx ry e q => ?_⟩
  · obtain ⟨i, j, rfl, rfl, hc, q⟩ := h
    obtain ⟨t, rfl⟩ := r1
    obtain ⟨t', rfl⟩ := r2
    exact PyProof.Rows.imul_int ⟨.int _, H, I.tok _, ⟨_, rfl⟩, q⟩ hc.ok
  · obtain ⟨i, j, rfl, rfl, e⟩ := intsD_some e
    obtain ⟨c, rfl⟩ := ite_some e
    exact ⟨i, j, rx, ry, c.imp smallI_iff.mp smallI_iff.mp, q _ F H (PV.same s rfl)⟩
theorem od_ifdiv : OpD X (inplaceOp .FloorDiv) fdivD := by
  refine ⟨rI CDiv fun i j => .int (i / j), fun pins s σ H x y v u Q I r1 r2 h => ?_, fun F H x y dx dy t Q s rx ry e q => ?_⟩
  · obtain ⟨i, j, rfl, rfl, hc, q⟩ := h
    obtain ⟨t, rfl⟩ := r1
    obtain ⟨t', rfl⟩ := r2
    refine PyProof.Rows.ifloordiv_int (by have := hc.1; omega) ?_ (.inl (PyProof.noPylong_small (by have := hc.1; have := hc.2; omega)))
    rw [Int.fdiv_eq_ediv_of_nonneg _ (by have := hc.1; omega)]
    exact ⟨.int _, H, I.tok _, ⟨_, rfl⟩, q⟩
  · obtain ⟨i, j, rfl, rfl, e⟩ := intsD_some e
    obtain ⟨c, rfl⟩ := ite_some e
    exact ⟨i, j, rx, ry, c, q _ F H (PV.same s rfl)⟩
theorem od_imod : OpD X (inplaceOp .Mod) modD := by
  refine ⟨rI (fun _ j => 0 < j) fun i j => .int (i % j), fun pins s σ H x y v u Q I r1 r2 h => ?_, fun F H x y dx dy t Q s rx ry e q => ?_⟩
  · obtain ⟨i, j, rfl, rfl, hc, q⟩ := h
    obtain ⟨t, rfl⟩ := r1
    obtain ⟨t', rfl⟩ := r2
    refine PyProof.Rows.imod_int (by omega) ?_
    rw [Int.fmod_eq_emod_of_nonneg _ (by omega)]
    exact ⟨.int _, H, I.tok _, ⟨_, rfl⟩, q⟩
  · obtain ⟨i, j, rfl, rfl, e⟩ := intsD_some e
    obtain ⟨c, rfl⟩ := ite_some e
    exact ⟨i, j, rx, ry, c, q _ F H (PV.same s rfl)⟩
/-- name op= e: by values; an own list is made longer where it stands -/
def sAug (ext : Bool) (g : D → D → Option T) (i : Nat) (m : Den) : DenS := fun ρ => (here i ρ).bind fun t0 => match t0 with
  | .lf dx => (dD m ρ).bind fun p => (g dx p.1).bind fun t => some (.nx, p.2.set i (some t))
  | .lst _ => if ext = true then (dD m ρ).bind fun p => match p.1 with
      | .lst ys => ((here i p.2).bind lstT).bind fun xs => if xs.length + ys.length ≤ sizeLine then some (.nx, p.2.set i (some (.lst (xs ++ ys)))) else none
      | _ => none
    else none
  | _ => none
theorem ss_aug {i : Nat} {x : Str} {op : Operator} {ext : Bool} {g : D → D → Option T} {m : Den} {p : Pos} (ho : OpD X (inplaceOp op) g) (hx : ext = true → op = .Add) (hN : X.N.Nodup) (hi : X.N[i]? = some x) (hl : Loc X.env.scope x) (hA : A i = true) (h : SE X e m)
    (hf : X.fn x = true ∨ X.env.scope.names.lookup x = some .local) : SS X A (.AugAssign (.Name x p) op e pos) (sAug ext g i m) := by
  obtain ⟨te, pe, k⟩ := h.d
  obtain ⟨r, hr, hg⟩ := ho
  cases ext with
  | true =>
    obtain rfl := hx rfl
    refine ⟨_, ps_aug hN hi hl pe (OpR.or hr iop_ext) hf, fun F H ρ σ o ρ' D R e f => ?_⟩
    obtain ⟨t0, e0, e⟩ := bind_some e
    obtain ⟨v0, hs0, r0⟩ := R.here e0
    cases t0 with
    | lf dx =>
      obtain ⟨⟨dy, ρ1⟩, e1, e⟩ := bind_some e
      obtain ⟨t, e2, e⟩ := bind_some e
      cases e
      refine ⟨v0, hs0, k F H ρ σ dy ρ1 _ R e1 fun vy F1 H1 p1 => .inl ?_⟩
      exact hg F1 H1 v0 vy dx dy t _ p1.rel.sub (RepD.le p1.st.le r0) p1.rep e2 fun w F2 H2 pv => f _ F2 H2 ((p1.n.trE (pv.poE p1.rel)).set hA)
    | lst ys0 =>
      rw [show (match T.lst ys0 with
        | .lf dx => (dD m ρ).bind fun p => (g dx p.1).bind fun t => some (Out.nx, p.2.set i (some t))
        | .lst _ => if true = true then (dD m ρ).bind fun p => match p.1 with
          | .lst ys => ((here i p.2).bind lstT).bind fun xs => if xs.length + ys.length ≤ sizeLine then some (.nx, p.2.set i (some (.lst (xs ++ ys)))) else none
          | _ => none
          else none
        | _ => none) = (dD m ρ).bind fun p => match p.1 with
          | .lst ys => ((here i p.2).bind lstT).bind fun xs => if xs.length + ys.length ≤ sizeLine then some (.nx, p.2.set i (some (.lst (xs ++ ys)))) else none
          | _ => none from rfl] at e
      obtain ⟨⟨dy, ρ1⟩, e1, e⟩ := bind_some e
      cases dy with
      | lst ys =>
        obtain ⟨xs, e2, e⟩ := bind_some e
        obtain ⟨hz, e⟩ := ite_some e
        cases e
        refine ⟨v0, hs0, k F H ρ σ _ ρ1 _ R e1 fun vy F1 H1 p1 => .inr ?_⟩
        obtain ⟨t1, h1, e2⟩ := bind_some e2
        obtain rfl := lstT_some e2
        obtain ⟨v1, hs1, pa, us, rfl, hH, hF, r1⟩ := p1.rel.here h1
        rw [hs0] at hs1; cases hs1
        obtain ⟨pb, ws, rfl, hb, r2⟩ := p1.rep
        refine ⟨pa, pb, us, ws, rfl, rfl, hH, p1.rel.sub.lst hb, by rw [← r1.length, ← r2.length]; exact hz, ?_⟩
        have g1 := p1.n.got (A := A) |>.upd h1 rfl hs0 rfl (t1 := .lst (xs ++ ys)) (u := .lst (us ++ ws)) ⟨pa, _, rfl, upd_same, hF, r1.append r2⟩
        have es : σ.set i (some (.ref pa)) = σ := by
          apply List.ext_getElem?
          intro j
          by_cases hj : i = j
          · subst hj
            have hi' : i < σ.length := (List.getElem?_eq_some_iff.mp hs0).1
            rw [List.getElem?_set_self hi', hs0]
          · rw [List.getElem?_set_ne hj]
        show D.nx (List.set σ i (some (V.ref pa))) _
        rw [es]
        exact f σ F1 _ g1
      | _ => cases e
    | _ => cases e
  | false =>
    refine ⟨_, ps_aug hN hi hl pe hr hf, fun F H ρ σ o ρ' D R e f => ?_⟩
    obtain ⟨t0, e0, e⟩ := bind_some e
    obtain ⟨v0, hs0, r0⟩ := R.here e0
    cases t0 with
    | lf dx =>
      obtain ⟨⟨dy, ρ1⟩, e1, e⟩ := bind_some e
      obtain ⟨t, e2, e⟩ := bind_some e
      cases e
      refine ⟨v0, hs0, k F H ρ σ dy ρ1 _ R e1 fun vy F1 H1 p1 => ?_⟩
      exact hg F1 H1 v0 vy dx dy t _ p1.rel.sub (RepD.le p1.st.le r0) p1.rep e2 fun w F2 H2 pv => f _ F2 H2 ((p1.n.trE (pv.poE p1.rel)).set hA)
    | _ => cases e
end VI

set_option Elab.async false
set_option linter.all false
set_option maxRecDepth 100000
set_option maxHeartbeats 4000000
/-! VK: defs: what they promise, how they are called -/
namespace VI
open PySem PySem.Spec L2
open PyProof.Rows hiding St
variable {X : Cx} {a b c e : Expr} {es : List Expr} {pos : Pos} {A : Nat → Bool}

abbrev Fn := List T → Option (T × List T)
structure PoF (G : Gx) (F H : Hp) (ts : List T) (vs : List V) (t : T) (v : V) (F' H' : Hp) (ts' : List T) : Prop where
  st : Stp (Own (ts.map some) (vs.map some)) F H (Own (ts'.map some) (vs.map some)) F' H'
  rel : Rel G F' H' (ts'.map some) (vs.map some)
  rep : RepT G F' H' t v
  new : ∀ a, t.own = true → v = .ref a → ¬ Own (ts'.map some) (vs.map some) a ∧ (Own (ts.map some) (vs.map some) a ∨ H a = none)
def spF (G : Gx) (g : Fn) : Sp := fun vs H Q _ => ∃ (F : Hp) (ts : List T) (t : T) (ts' : List T), Rel G F H (ts.map some) (vs.map some) ∧ g ts = some (t, ts') ∧ ∀ v F' H', PoF G F H ts vs t v F' H' ts' → Q v H'
/-- a def of the program that may be called -/
structure Cal (X : Cx) (k : Nat) (x : Str) (g : Fn) : Prop where
  ex : ∃ (f : Addr) (fd : FuncData) (ps : List Str), X.mg x = some (.ref f) ∧ FnOk X.prog X.w X.K X.mg X.base CX0 k f fd ps (spF (gx X) g) ∧ PySem.W.keepIn X.K (.ref f) = true ∧ Binds X.K fd ps []

def argsT (ρ : En) : List LV → Option (List T)
  | [] => some []
  | .sl i :: ls => (here i ρ).bind fun t => (argsT ρ ls).bind fun ts => some (t :: ts)
  | .va d :: ls => (argsT ρ ls).bind fun ts => some (.lf d :: ts)
def putBack (ρ : En) : List LV → List T → En
  | .sl i :: ls, t :: ts => putBack (ρ.set i (some t)) ls ts
  | .va _ :: ls, _ :: ts => putBack ρ ls ts
  | _, _ => ρ
/-- the slots whose own lists or dicts are lent -/
def lent (ρ : En) : List LV → List Nat
  | [] => []
  | .sl i :: ls => match here i ρ with
    | some t => if t.own = true then i :: lent ρ ls else lent ρ ls
    | none => lent ρ ls
  | .va _ :: ls => lent ρ ls
def dCall (g : Fn) (m : DenL) : Den := fun ρ => (m ρ).bind fun p => (argsT p.2 p.1).bind fun ts => if (lent p.2 p.1).Nodup then (g ts).bind fun q => if q.2.length = ts.length then some (q.1, putBack p.2 p.1 q.2) else none else none

theorem argsT_get {ρ : En} : ∀ {ls : List LV} {ts : List T}, argsT ρ ls = some ts → ts.length = ls.length ∧ ∀ (j : Nat) (t : T), ts[j]? = some t → (∃ i : Nat, ls[j]? = some (LV.sl i) ∧ here i ρ = some t) ∨ ∃ d : D, ls[j]? = some (LV.va d) ∧ t = .lf d
  | [], ts, h => by cases h; exact ⟨rfl, fun j t h => by simp at h⟩
  | .sl i :: ls, ts, h => by
    obtain ⟨t, e1, h⟩ := bind_some h
    obtain ⟨ts', e2, h⟩ := bind_some h
    cases h
    obtain ⟨h1, h2⟩ := argsT_get e2
    refine ⟨by simp [h1], fun j u hj => ?_⟩
    cases j with
    | zero => simp at hj; subst hj; exact .inl ⟨i, by simp, e1⟩
    | succ j => simpa using h2 j u (by simpa using hj)
  | .va d :: ls, ts, h => by
    obtain ⟨ts', e2, h⟩ := bind_some h
    cases h
    obtain ⟨h1, h2⟩ := argsT_get e2
    refine ⟨by simp [h1], fun j u hj => ?_⟩
    cases j with
    | zero => simp at hj; subst hj; exact .inr ⟨d, by simp, rfl⟩
    | succ j => simpa using h2 j u (by simpa using hj)
theorem putBack_get : ∀ {ls : List LV} {ts : List T} {ρ : En}, ts.length = ls.length → (∀ (j i : Nat), ls[j]? = some (LV.sl i) → i < ρ.length) → (putBack ρ ls ts).length = ρ.length ∧ ∀ i : Nat,
    (∃ (j : Nat) (t : T), ls[j]? = some (LV.sl i) ∧ ts[j]? = some t ∧ (putBack ρ ls ts)[i]? = some (some t)) ∨ ((∀ j : Nat, ls[j]? ≠ some (LV.sl i)) ∧ (putBack ρ ls ts)[i]? = ρ[i]?)
  | [], [], ρ, _, _ => ⟨rfl, fun i => .inr ⟨fun j h => by simp at h, rfl⟩⟩
  | [], _ :: _, _, h, _ => by cases h
  | .sl _ :: _, [], _, h, _ => by cases h
  | .va _ :: _, [], _, h, _ => by cases h
  | .sl k :: ls, t :: ts, ρ, h, hb => by
    have hk : k < ρ.length := hb 0 k (by simp)
    obtain ⟨h1, h2⟩ := putBack_get (ls := ls) (ts := ts) (ρ := ρ.set k (some t)) (by simpa using h) (fun j i hj => by simpa using hb (j + 1) i (by simpa using hj))
    refine ⟨by simpa [putBack] using h1, fun i => ?_⟩
    rcases h2 i with ⟨j, u, a1, a2, a3⟩ | ⟨a1, a2⟩
    · exact .inl ⟨j + 1, u, by simpa using a1, by simpa using a2, a3⟩
    · by_cases hi : k = i
      · subst hi
        refine .inl ⟨0, t, by simp, by simp, ?_⟩
        show (putBack (ρ.set k (some t)) ls ts)[k]? = _
        rw [a2, List.getElem?_set_self hk]
      · refine .inr ⟨fun j hj => ?_, ?_⟩
        · cases j with
          | zero => simp at hj; exact hi hj
          | succ j => exact a1 j (by simpa using hj)
        · show (putBack (ρ.set k (some t)) ls ts)[i]? = _
          rw [a2, List.getElem?_set_ne hi]
  | .va d :: ls, t :: ts, ρ, h, hb => by
    obtain ⟨h1, h2⟩ := putBack_get (ls := ls) (ts := ts) (ρ := ρ) (by simpa using h) (fun j i hj => hb (j + 1) i (by simpa using hj))
    refine ⟨by simpa [putBack] using h1, fun i => ?_⟩
    rcases h2 i with ⟨j, u, a1, a2, a3⟩ | ⟨a1, a2⟩
    · exact .inl ⟨j + 1, u, by simpa using a1, by simpa using a2, a3⟩
    · refine .inr ⟨fun j hj => ?_, a2⟩
      cases j with
      | zero => simp at hj
      | succ j => exact a1 j (by simpa using hj)
theorem lent_two {ρ : En} : ∀ {ls : List LV}, (lent ρ ls).Nodup → ∀ {j j' i : Nat} {t : T}, ls[j]? = some (LV.sl i) → ls[j']? = some (LV.sl i) → here i ρ = some t → t.own = true → j = j' := by
  have mem : ∀ {ls : List LV} {j i : Nat} {t : T}, ls[j]? = some (LV.sl i) → here i ρ = some t → t.own = true → i ∈ lent ρ ls := by
    intro ls
    induction ls with
    | nil => intro j i t h; simp at h
    | cons l ls ih =>
      intro j i t h e o
      cases j with
      | zero =>
        simp at h; subst h
        simp only [lent, e, o, if_true]
        exact List.mem_cons_self
      | succ j =>
        have q := ih (by simpa using h) e o
        cases l with
        | va d => exact q
        | sl k =>
          show i ∈ (match here k ρ with
            | some t => if t.own = true then k :: lent ρ ls else lent ρ ls
            | none => lent ρ ls)
          cases here k ρ with
          | none => exact q
          | some u =>
            show i ∈ (if u.own = true then k :: lent ρ ls else lent ρ ls)
            split
            · exact List.mem_cons_of_mem _ q
            · exact q
  intro ls
  induction ls with
  | nil => intro _ j j' i t h; simp at h
  | cons l ls ih =>
    intro nd j j' i t h h' e o
    have nd' : (lent ρ ls).Nodup := by
      cases l with
      | va d => exact nd
      | sl k =>
        have nd : (match here k ρ with
            | some t => if t.own = true then k :: lent ρ ls else lent ρ ls
            | none => lent ρ ls).Nodup := nd
        cases q : here k ρ with
        | none => rw [q] at nd; exact nd
        | some u =>
          rw [q] at nd
          have nd : (if u.own = true then k :: lent ρ ls else lent ρ ls).Nodup := nd
          split at nd
          · exact (List.nodup_cons.mp nd).2
          · exact nd
    cases j with
    | zero =>
      cases j' with
      | zero => rfl
      | succ j' =>
        simp at h; subst h
        simp only [lent, e, o, if_true] at nd
        exact absurd (mem (by simpa using h') e o) (List.nodup_cons.mp nd).1
    | succ j =>
      cases j' with
      | zero =>
        simp at h'; subst h'
        simp only [lent, e, o, if_true] at nd
        exact absurd (mem (by simpa using h) e o) (List.nodup_cons.mp nd).1
      | succ j' => exact congrArg Nat.succ (ih nd' (i := i) (t := t) (by simpa using h) (by simpa using h') e o)
theorem LReps.get {G : Gx} {F : Hp} {ρ : En} {σ : St} : ∀ {ls : List LV} {vs : List V}, LReps G F ρ σ ls vs → ls.length = vs.length ∧ ∀ (j : Nat) (l : LV), ls[j]? = some l → ∃ v : V, vs[j]? = some v ∧ LRep G F ρ σ l v
  | [], vs, h => by cases h; exact ⟨rfl, fun j l h => by simp at h⟩
  | l :: ls, vs, ⟨v, r, e, h1, h2⟩ => by
    subst e
    obtain ⟨h3, h4⟩ := LReps.get h2
    refine ⟨by simp [h3], fun j l' hj => ?_⟩
    cases j with
    | zero => simp at hj; subst hj; exact ⟨v, by simp, h1⟩
    | succ j => simpa using h4 j l' (by simpa using hj)
theorem map_some_get {α : Type} {l : List α} {j : Nat} {x : α} : (l.map some)[j]? = some (some x) ↔ l[j]? = some x := by
  rw [List.getElem?_map]
  cases l[j]? <;> simp

/-- what a callee takes over -/
theorem call_rel {G : Gx} {F H : Hp} {ρ : En} {σ : St} {ls : List LV} {vs : List V} {ts : List T} (R : Rel G F H ρ σ) (L : LReps G F ρ σ ls vs) (e : argsT ρ ls = some ts) (nd : (lent ρ ls).Nodup) :
    Rel G F H (ts.map some) (vs.map some) ∧ ∀ x, Own (ts.map some) (vs.map some) x → ∃ (j i : Nat) (t : T), ls[j]? = some (LV.sl i) ∧ here i ρ = some t ∧ t.own = true ∧ σ[i]? = some (some (.ref x)) := by
  obtain ⟨l1, g1⟩ := argsT_get e
  obtain ⟨l2, g2⟩ := L.get
  have own : ∀ (j : Nat) (t : T) (x : Addr), ts[j]? = some t → t.own = true → vs[j]? = some (.ref x) → ∃ i, ls[j]? = some (LV.sl i) ∧ here i ρ = some t ∧ σ[i]? = some (some (.ref x)) := fun j t x hj o hv => by
    rcases g1 j t hj with ⟨i, h1, h2⟩ | ⟨d, h1, h2⟩
    · obtain ⟨v, h3, h4⟩ := g2 j _ h1
      rw [hv] at h3; cases h3
      exact ⟨i, h1, h2, h4⟩
    · subst h2; cases o
  refine ⟨⟨by simp [l1, l2], R.sub, fun j t hj => ?_, fun j k t u x ne ej oj sj ek ok sk => ?_⟩, fun x ⟨j, t, ej, o, s⟩ => ?_⟩
  · rw [map_some_get] at hj
    rcases g1 j t hj with ⟨i, h1, h2⟩ | ⟨d, h1, h2⟩
    · obtain ⟨v, h3, h4⟩ := g2 j _ h1
      obtain ⟨v', h5, h6⟩ := R.here h2
      have h4 : σ[i]? = some (some v) := h4
      rw [h4] at h5; cases h5
      exact ⟨v, map_some_get.mpr h3, h6⟩
    · obtain ⟨v, h3, h4⟩ := g2 j _ h1
      subst h2
      exact ⟨v, map_some_get.mpr h3, h4⟩
  · rw [map_some_get] at ej sj ek sk
    obtain ⟨i, a1, a2, a3⟩ := own j t x ej oj sj
    obtain ⟨i', b1, b2, b3⟩ := own k u x ek ok sk
    by_cases hi : i = i'
    · subst hi
      exact ne (lent_two nd a1 b1 a2 oj)
    · exact R.sep i i' t u x hi (here_some a2) oj a3 (here_some b2) ok b3
  · rw [map_some_get] at ej s
    obtain ⟨i, a1, a2, a3⟩ := own j t x ej o s
    exact ⟨j, i, t, a1, a2, o, a3⟩
/-- what comes back -/
theorem call_back {G : Gx} {F H F' H' : Hp} {ρ : En} {σ : St} {ls : List LV} {vs : List V} {ts ts' : List T} {t : T} {v : V} (R : Rel G F H ρ σ) (L : LReps G F ρ σ ls vs) (e : argsT ρ ls = some ts) (nd : (lent ρ ls).Nodup) (hl : ts'.length = ts.length)
    (p : PoF G F H ts vs t v F' H' ts') : PoE G F H ρ σ t v F' H' (putBack ρ ls ts') := by
  obtain ⟨l1, g1⟩ := argsT_get e
  obtain ⟨l2, g2⟩ := L.get
  obtain ⟨R0, own0⟩ := call_rel R L e nd
  have inb : ∀ (j i : Nat), ls[j]? = some (LV.sl i) → i < ρ.length := fun j i hj => by
    obtain ⟨v, h3, h4⟩ := g2 j _ hj
    have h4 : σ[i]? = some (some v) := h4
    have := (List.getElem?_eq_some_iff.mp h4).1
    rw [R.len]; exact this
  obtain ⟨pl, pg⟩ := putBack_get (ρ := ρ) (hl.trans l1) inb
  -- a slot that was not lent, and one that was
  have apart : ∀ (k : Nat) (u : T) (x : Addr), (∀ j : Nat, ls[j]? ≠ some (LV.sl k)) → ρ[k]? = some (some u) → u.own = true → σ[k]? = some (some (.ref x)) → ¬ Own (ts.map some) (vs.map some) x := fun k u x hk eu ou su ho => by
    obtain ⟨j, i, w, a1, a2, a3, a4⟩ := own0 x ho
    by_cases hi : i = k
    · subst hi; exact hk j a1
    · exact R.sep i k w u x hi (here_some a2) a3 a4 eu ou su
  have lentO : ∀ (j i : Nat) (u : T) (x : Addr), ls[j]? = some (LV.sl i) → ts'[j]? = some u → u.own = true → σ[i]? = some (some (.ref x)) → Own (ts'.map some) (vs.map some) x ∧ vs[j]? = some (.ref x) := fun j i u x a1 a2 ou su => by
    obtain ⟨v, h3, h4⟩ := g2 j _ a1
    have h4 : σ[i]? = some (some v) := h4
    rw [su] at h4; cases h4
    exact ⟨⟨j, u, map_some_get.mpr a2, ou, map_some_get.mpr h3⟩, h3⟩
  have o01 : ∀ x, Own (ts.map some) (vs.map some) x → Own ρ σ x := fun x ho => by
    obtain ⟨j, i, w, a1, a2, a3, a4⟩ := own0 x ho
    exact ⟨i, w, here_some a2, a3, a4⟩
  have notfz : ∀ (k : Nat) (u : T) (x : Addr), (∀ j : Nat, ls[j]? ≠ some (LV.sl k)) → ρ[k]? = some (some u) → u.own = true → σ[k]? = some (some (.ref x)) → H' x = H x ∧ F' x = none := fun k u x hk eu ou su => by
    have na := apart k u x hk eu ou su
    obtain ⟨⟨w, ew⟩, fw⟩ := R.own_at ⟨k, u, eu, ou, su⟩
    refine ⟨(p.st.fr x w ew na).trans ew.symm, ?_⟩
    cases z : F' x with
    | none => rfl
    | some y =>
      rcases p.st.fz x (by rw [z]; simp) with q | q | q
      · exact absurd fw q
      · exact absurd q na
      · rw [ew] at q; cases q
  have ownB : ∀ x, Own (putBack ρ ls ts') σ x → Own (ts'.map some) (vs.map some) x ∨ ∃ (k : Nat) (u : T), (∀ j : Nat, ls[j]? ≠ some (LV.sl k)) ∧ ρ[k]? = some (some u) ∧ u.own = true ∧ σ[k]? = some (some (.ref x)) := fun x ⟨i, u, eu, ou, su⟩ => by
    rcases pg i with ⟨j, u', a1, a2, a3⟩ | ⟨a1, a2⟩
    · rw [eu] at a3; cases a3
      exact .inl (lentO j i u x a1 a2 ou su).1
    · rw [eu] at a2
      exact .inr ⟨i, u, a1, a2.symm, ou, su⟩
  refine ⟨⟨p.st.le, fun x u eu n => p.st.fr x u eu fun q => n (o01 x q), fun x q => ?_, fun x q => ?_⟩, ⟨by rw [pl]; exact R.len, p.rel.sub, fun i u eu => ?_, fun i k u w x ne eu ou su ek ok sk => ?_⟩, p.rep, fun x o ev => ?_⟩
  · rcases ownB x q with q | ⟨k, u, _, eu, ou, su⟩
    · exact (p.st.ow x q).imp_left (o01 x)
    · exact .inl ⟨k, u, eu, ou, su⟩
  · rcases p.st.fz x q with q | q | q
    · exact .inl q
    · exact .inr (.inl (o01 x q))
    · exact .inr (.inr q)
  · rcases pg i with ⟨j, u', a1, a2, a3⟩ | ⟨a1, a2⟩
    · rw [eu] at a3; cases a3
      obtain ⟨v1, h3, h4⟩ := g2 j _ a1
      obtain ⟨v2, h5, h6⟩ := p.rel.rep j u (map_some_get.mpr a2)
      rw [map_some_get] at h5
      rw [h3] at h5; cases h5
      exact ⟨v1, h4, h6⟩
    · rw [eu] at a2
      obtain ⟨v1, h3, h4⟩ := R.rep i u a2.symm
      refine ⟨v1, h3, h4.go p.st.le fun x o ev => notfz i u x a1 a2.symm o (by rw [h3, ev])⟩
  · rcases pg i with ⟨j, u', a1, a2, a3⟩ | ⟨a1, a2⟩
    · rw [eu] at a3; cases a3
      obtain ⟨o1, s1⟩ := lentO j i u x a1 a2 ou su
      rcases pg k with ⟨j', w', b1, b2, b3⟩ | ⟨b1, b2⟩
      · rw [ek] at b3; cases b3
        obtain ⟨o2, s2⟩ := lentO j' k w x b1 b2 ok sk
        have nj : j ≠ j' := fun z => by subst z; rw [a1] at b1; cases b1; exact ne rfl
        exact p.rel.sep j j' u w x nj (map_some_get.mpr a2) ou (map_some_get.mpr s1) (map_some_get.mpr b2) ok (map_some_get.mpr s2)
      · rw [ek] at b2
        rcases p.st.ow x o1 with q | q
        · exact apart k w x b1 b2.symm ok sk q
        · obtain ⟨⟨y, ey⟩, _⟩ := R.own_at ⟨k, w, b2.symm, ok, sk⟩
          rw [q] at ey; cases ey
    · rw [eu] at a2
      rcases pg k with ⟨j', w', b1, b2, b3⟩ | ⟨b1, b2⟩
      · rw [ek] at b3; cases b3
        obtain ⟨o2, s2⟩ := lentO j' k w x b1 b2 ok sk
        rcases p.st.ow x o2 with q | q
        · exact apart i u x a1 a2.symm ou su q
        · obtain ⟨⟨y, ey⟩, _⟩ := R.own_at ⟨i, u, a2.symm, ou, su⟩
          rw [q] at ey; cases ey
      · rw [ek] at b2
        exact R.sep i k u w x ne a2.symm ou su b2.symm ok sk
  · obtain ⟨n1, n2⟩ := p.new x o ev
    refine ⟨fun q => ?_, n2.imp_left (o01 x)⟩
    rcases ownB x q with q | ⟨k, u, hk, eu, ou, su⟩
    · exact n1 q
    · rcases n2 with q | q
      · exact apart k u x hk eu ou su q
      · obtain ⟨⟨y, ey⟩, _⟩ := R.own_at ⟨k, u, eu, ou, su⟩
        rw [q] at ey; cases ey
theorem run_call {g : Fn} {m : DenL} {te : TA} (k : ∀ (F H : Hp) (ρ : En) (σ : St) (ls : List LV) (ρ' : En) (Q : List V → Hp → Prop), Rel (gx X) F H ρ σ → m ρ = some (ls, ρ') → (∀ vs F' H', PoN (gx X) F H ρ σ F' H' ρ' → LReps (gx X) F' ρ' σ ls vs → Q vs H') → te σ H Q)
    (F H : Hp) (ρ : En) (σ : St) (t : T) (ρ' : En) (Q : VK) (R : Rel (gx X) F H ρ σ) (e : dCall g m ρ = some (t, ρ')) (q : ∀ v F' H', PoE (gx X) F H ρ σ t v F' H' ρ' → Q v H') : tCall (spF (gx X) g) [] E0 te σ H Q := by
  obtain ⟨⟨ls, ρ1⟩, e1, e⟩ := bind_some e
  obtain ⟨ts, e2, e⟩ := bind_some e
  have e : (if (lent ρ1 ls).Nodup then (g ts).bind fun q => if q.2.length = ts.length then some (q.1, putBack ρ1 ls q.2) else none else none) = some (t, ρ') := e
  split at e
  · rename_i nd
    obtain ⟨⟨t', ts'⟩, e3, e⟩ := bind_some e
    obtain ⟨hl, e⟩ := ite_some e
    cases e
    refine k F H ρ σ ls ρ1 _ R e1 fun vs F1 H1 p1 L => ?_
    show spF (gx X) g (vs ++ []) H1 Q E0
    rw [List.append_nil]
    exact ⟨F1, ts, _, ts', (call_rel p1.rel L e2 nd).1, e3, fun v F' H' pf => q v F' H' (p1.trE (call_back p1.rel L e2 nd hl pf))⟩
  · cases e
theorem se_call {x : Str} {p : Pos} {k : Nat} {g : Fn} {m : DenL} (C : Cal X k x g) (hr : Room k X.A) (hg : Gl X x) (ha : SL X (a :: es) m) (hdb : (x == ("__debug__" : Str)) = false)
    (he : starEach (a :: es) X.env = (false, eval a X.env) :: starEach es X.env) (hpl : (backTo pos (starEach es X.env)).any (·.1) = false) : SE X (.Call (.Name x p) (a :: es) [] pos) (dCall g m) := by
  obtain ⟨f, fd, ps, hm, F, kp, b⟩ := C.ex
  obtain ⟨te, pa, ka⟩ := ha
  exact ⟨_, pe_call F hr hg hm kp b .nil pass0 pa hdb he hpl, run_call ka⟩
theorem se_call0 {x : Str} {p : Pos} {k : Nat} {g : Fn} (C : Cal X k x g) (hr : Room k X.A) (hg : Gl X x) (hdb : (x == ("__debug__" : Str)) = false) : SE X (.Call (.Name x p) [] [] pos) (dCall g dNilL) := by
  obtain ⟨f, fd, ps, hm, F, kp, b⟩ := C.ex
  obtain ⟨te, pa, ka⟩ := sl_nil (X := X)
  refine ⟨_, pe_call0 F hr hg hm kp b .nil pass0 hdb, fun F H ρ σ t ρ' Q R e q => ?_⟩
  refine run_call (te := tNil) (fun F H ρ σ ls ρ' Q R e q => ?_) F H ρ σ t ρ' Q R e q
  cases e
  exact q [] F H (.refl R) rfl

/-! ### a def by its body -/
def outT : Out → Option T
  | .nx => some (.lf .non)
  | .rt t => some t
  | _ => none
/-- the arguments behind the body; those that the body stores anew were frozen ahead -/
def backArgs (A : Nat → Bool) (ρ : En) : Nat → List T → Option (List T)
  | _, [] => some []
  | j, t :: ts => if A j = true then (if t.own = true then none else (backArgs A ρ (j + 1) ts).bind fun r => some (t :: r)) else (here j ρ).bind fun u => (backArgs A ρ (j + 1) ts).bind fun r => some (u :: r)
def fnDen (A : Nat → Bool) (np nn : Nat) (m : DenS) : Fn := fun ts => if ts.length = np then (m (ts.map some ++ List.replicate (nn - np) none)).bind fun p => (outT p.1).bind fun t => (backArgs A p.2 0 ts).bind fun ts' => some (t, ts') else none
theorem backArgs_get {A : Nat → Bool} {ρ : En} : ∀ {ts : List T} {n : Nat} {ts' : List T}, backArgs A ρ n ts = some ts' → ts'.length = ts.length ∧ ∀ (j : Nat) (t : T), ts'[j]? = some t → (A (n + j) = true ∧ ts[j]? = some t ∧ t.own = false) ∨ (A (n + j) = false ∧ here (n + j) ρ = some t)
  | [], n, ts', h => by cases h; exact ⟨rfl, fun j t h => by simp at h⟩
  | t :: ts, n, ts', h => by
    have h : (if A n = true then (if t.own = true then none else (backArgs A ρ (n + 1) ts).bind fun r => some (t :: r)) else (here n ρ).bind fun u => (backArgs A ρ (n + 1) ts).bind fun r => some (u :: r)) = some ts' := h
    have sh : ∀ j, n + 1 + j = n + (j + 1) := fun j => by omega
    split at h
    · rename_i hA
      split at h
      · cases h
      · rename_i ho
        obtain ⟨r, e, h⟩ := bind_some h
        cases h
        obtain ⟨h1, h2⟩ := backArgs_get e
        refine ⟨by simp [h1], fun j u hj => ?_⟩
        cases j with
        | zero => simp at hj; subst hj; exact .inl ⟨hA, by simp, by simpa using ho⟩
        | succ j => rw [← sh]; simpa using h2 j u (by simpa using hj)
    · rename_i hA
      obtain ⟨u0, e0, h⟩ := bind_some h
      obtain ⟨r, e, h⟩ := bind_some h
      cases h
      obtain ⟨h1, h2⟩ := backArgs_get e
      refine ⟨by simp [h1], fun j u hj => ?_⟩
      cases j with
      | zero => simp at hj; subst hj; exact .inr ⟨by simpa using hA, e0⟩
      | succ j => rw [← sh]; simpa using h2 j u (by simpa using hj)
theorem fn_body {P : Program} {w : World} {K : PySem.W.Frag} {mg : Str → Option Value} {base : Heap} {N ps : List Str} {qual : Str} {scope : Scope} {f : Addr} {cdv : Value} {Ar : Around} {outer : List Env} {s : Shared} {H : Hp} {E : XK} {body : List Stmt} {m : DenS} {vs : List V} {Q : VK} {k : Nat}
    (hb : SSs ((cxOf CX0 P w K mg base N qual scope f cdv Ar outer s H E).nox) A body m) (hN : ps.length ≤ N.length) (hsp : spF ⟨K, mg⟩ (fnDen A ps.length N.length m) vs H Q E) :
    ∃ t, PSs (cxOf CX0 P w K mg base N qual scope f cdv Ar outer s H E).nox body t ∧ t { nx := fun _ H' => Q .non H', rt := Q } (L2.start N vs) H := by
  obtain ⟨t, p, run⟩ := hb
  refine ⟨t, p, ?_⟩
  obtain ⟨F, ts, tr, ts', R, e, q⟩ := hsp
  have e : (if ts.length = ps.length then (m (ts.map some ++ List.replicate (N.length - ps.length) none)).bind fun p => (outT p.1).bind fun t => (backArgs A p.2 0 ts).bind fun ts' => some (t, ts') else none) = some (tr, ts') := e
  split at e
  · rename_i hl
    obtain ⟨⟨o, ρ'⟩, e1, e⟩ := bind_some e
    obtain ⟨t', e2, e⟩ := bind_some e
    obtain ⟨ts2, e3, e⟩ := bind_some e
    cases e
    have hlv : ts.length = vs.length := by simpa using R.len
    have es : L2.start N vs = vs.map some ++ List.replicate (N.length - ps.length) none := by unfold L2.start; rw [← hlv, hl]
    rw [es]
    have up1 : ∀ {i : Nat} {t : T}, (ts.map some ++ List.replicate (N.length - ps.length) none)[i]? = some (some t) → (ts.map some)[i]? = some (some t) := fun {i t} h => by
      by_cases hi : i < (ts.map some).length
      · rw [List.getElem?_append_left hi] at h; exact h
      · rw [List.getElem?_append_right (by omega), List.getElem?_replicate] at h
        split at h <;> cases h
    have up2 : ∀ {i : Nat} {v : V}, (vs.map some)[i]? = some (some v) → (vs.map some ++ List.replicate (N.length - ps.length) none)[i]? = some (some v) := fun {i v} h => by
      rw [List.getElem?_append_left (List.getElem?_eq_some_iff.mp h).1]; exact h
    have dn2 : ∀ {i : Nat} {v : V}, (vs.map some ++ List.replicate (N.length - ps.length) none)[i]? = some (some v) → (vs.map some)[i]? = some (some v) := fun {i v} h => by
      by_cases hi : i < (vs.map some).length
      · rw [List.getElem?_append_left hi] at h; exact h
      · rw [List.getElem?_append_right (by omega), List.getElem?_replicate] at h
        split at h <;> cases h
    have oeq : ∀ x, Own (ts.map some ++ List.replicate (N.length - ps.length) none) (vs.map some ++ List.replicate (N.length - ps.length) none) x → Own (ts.map some) (vs.map some) x := fun x ⟨i, t, e, o, s⟩ => ⟨i, t, up1 e, o, dn2 s⟩
    have oeq2 : ∀ x, Own (ts.map some) (vs.map some) x → Own (ts.map some ++ List.replicate (N.length - ps.length) none) (vs.map some ++ List.replicate (N.length - ps.length) none) x := fun x ⟨i, t, e, o, s⟩ =>
      ⟨i, t, by rw [List.getElem?_append_left (List.getElem?_eq_some_iff.mp e).1]; exact e, o, up2 s⟩
    have R0 : Rel ⟨K, mg⟩ F H (ts.map some ++ List.replicate (N.length - ps.length) none) (vs.map some ++ List.replicate (N.length - ps.length) none) := by
      refine ⟨by simp [hlv], R.sub, fun i t h => ?_, fun i j t u x ne ei oi si ej oj sj => R.sep i j t u x ne (up1 ei) oi (dn2 si) (up1 ej) oj (dn2 sj)⟩
      obtain ⟨v, h1, h2⟩ := R.rep i t (up1 h)
      exact ⟨v, up2 h1, h2⟩
    obtain ⟨bl, bg⟩ := backArgs_get e3
    -- the end
    have fin : ∀ (σ' : St) (F' H' : Hp) (v : V), Got ⟨K, mg⟩ A F H (ts.map some ++ List.replicate (N.length - ps.length) none) (vs.map some ++ List.replicate (N.length - ps.length) none) F' H' ρ' σ' → RepT ⟨K, mg⟩ F' H' tr v →
        (∀ a, tr.own = true → v = .ref a → ¬ Own ρ' σ' a ∧ (Own (ts.map some ++ List.replicate (N.length - ps.length) none) (vs.map some ++ List.replicate (N.length - ps.length) none) a ∨ H a = none)) → Q v H' := by
      intro σ' F' H' v g r n
      have slot : ∀ (j : Nat) (t : T), ts'[j]? = some t → A j = false → ∀ v, vs[j]? = some v → here j ρ' = some t → σ'[j]? = some (some v) := fun j t hj hA v hv hh => by
        rw [g.kp.2 j hA]
        exact up2 (map_some_get.mpr hv)
      have own1 : ∀ x, Own (ts'.map some) (vs.map some) x → Own ρ' σ' x := fun x ⟨j, t, ej, oj, sj⟩ => by
        rw [map_some_get] at ej sj
        rcases bg j t ej with ⟨_, _, z⟩ | ⟨hA, hh⟩
        · rw [oj] at z; cases z
        · rw [Nat.zero_add] at hA hh
          exact ⟨j, t, here_some hh, oj, slot j t ej hA _ sj hh⟩
      have le := g.st.le
      refine q v F' H' ⟨⟨le, fun x u h no => g.st.fr x u h fun z => no (oeq x z), fun x z => (g.st.ow x (own1 x z)).imp_left (oeq x), fun x z => ?_⟩, ⟨by simp [bl, hlv], g.rel.sub, fun j t ej => ?_, fun i j t u x ne ei oi si ej oj sj => ?_⟩, r, fun a o ev => ?_⟩
      · rcases g.st.fz x z with z | z | z
        · exact .inl z
        · exact .inr (.inl (oeq x z))
        · exact .inr (.inr z)
      · rw [map_some_get] at ej
        have hj : j < vs.length := by
          have := (List.getElem?_eq_some_iff.mp ej).1
          omega
        obtain ⟨v1, hv1⟩ := getLt hj
        refine ⟨v1, map_some_get.mpr hv1, ?_⟩
        rcases bg j t ej with ⟨_, et, z⟩ | ⟨hA, hh⟩
        · obtain ⟨v2, h2, r2⟩ := R.rep j t (map_some_get.mpr et)
          rw [map_some_get, hv1] at h2; cases h2
          cases t with
          | lf d => exact RepD.le le r2
          | _ => cases z
        · rw [Nat.zero_add] at hA hh
          obtain ⟨v2, h2, r2⟩ := g.rel.here hh
          rw [slot j t ej hA v1 hv1 hh] at h2; cases h2
          exact r2
      · rw [map_some_get] at ei si ej sj
        rcases bg i t ei with ⟨_, _, z⟩ | ⟨hA, hh⟩
        · rw [oi] at z; cases z
        rcases bg j u ej with ⟨_, _, z⟩ | ⟨hA2, hh2⟩
        · rw [oj] at z; cases z
        rw [Nat.zero_add] at hA hh hA2 hh2
        exact g.rel.sep i j t u x ne (here_some hh) oi (slot i t ei hA _ si hh) (here_some hh2) oj (slot j u ej hA2 _ sj hh2)
      · obtain ⟨n1, n2⟩ := n a o ev
        exact ⟨fun z => n1 (own1 a z), n2.imp_left (oeq a)⟩
    refine run F H _ _ o ρ' _ R0 e1 ?_
    cases o with
    | nx => cases e2; exact fun σ' F' H' g => fin σ' F' H' .non g rfl fun _ o => nomatch o
    | rt t => cases e2; exact fun v σ' F' H' g => fin σ' F' H' v g.toGot g.rep g.new
    | bk => cases e2
    | ct => cases e2
  · cases e
theorem fnDen_len {np nn : Nat} {m : DenS} {ts : List T} {r : T × List T} (h : fnDen A np nn m ts = some r) : ts.length = np := by
  have h : (if ts.length = np then _ else none) = some r := h
  split at h
  · assumption
  · cases h
theorem spF_len {G : Gx} {ps : List Str} {nn : Nat} {m : DenS} (vs : List V) (H : Hp) (Q : VK) (E : XK) (h : spF G (fnDen A ps.length nn m) vs H Q E) : vs.length = ps.length := by
  obtain ⟨F, ts, tr, ts', R, e, q⟩ := h
  have := R.len
  have := fnDen_len e
  simp at *
  omega
end VI

set_option Elab.async false
set_option linter.all false
set_option maxRecDepth 100000
set_option maxHeartbeats 4000000
/-! VL: list comprehensions -/
namespace VI
open PySem PySem.Spec L2
open PyProof.Rows hiding St
variable {X : Cx} {a b c e : Expr} {es : List Expr} {pos : Pos}

def wipeE (ρ : En) : List Nat → En
  | [] => ρ
  | v :: vs => (wipeE ρ vs).set v none
/-- the block's own names get back what they had -/
def unwipe (ρ0 ρ : En) : List Nat → En
  | [] => ρ
  | v :: vs => match ρ0[v]? with
    | some o => (unwipe ρ0 ρ vs).set v o
    | none => unwipe ρ0 ρ vs
theorem wipeE_len (ρ : En) : ∀ vs : List Nat, (wipeE ρ vs).length = ρ.length
  | [] => rfl
  | v :: vs => by simp [wipeE, wipeE_len ρ vs]
theorem wipeE_get {ρ : En} {i : Nat} : ∀ {vs : List Nat}, (i ∉ vs → (wipeE ρ vs)[i]? = ρ[i]?) ∧ (i ∈ vs → ∀ t, (wipeE ρ vs)[i]? ≠ some (some t))
  | [] => ⟨fun _ => rfl, fun h => by simp at h⟩
  | v :: vs => by
    obtain ⟨h1, h2⟩ := wipeE_get (ρ := ρ) (i := i) (vs := vs)
    constructor
    · intro h
      simp only [List.mem_cons, not_or] at h
      show ((wipeE ρ vs).set v none)[i]? = _
      rw [List.getElem?_set_ne (Ne.symm h.1)]
      exact h1 h.2
    · intro h t e
      have e : ((wipeE ρ vs).set v none)[i]? = some (some t) := e
      by_cases hv : v = i
      · subst hv
        by_cases hl : v < (wipeE ρ vs).length
        · rw [List.getElem?_set_self hl] at e; cases e
        · rw [List.getElem?_eq_none (by simpa using hl)] at e; cases e
      · rw [List.getElem?_set_ne hv] at e
        have : i ∈ vs := (List.mem_cons.mp h).resolve_left (fun z => hv z.symm)
        exact h2 this t e
theorem wipe_get {σ : St} {i : Nat} : ∀ {vs : List Nat}, (i ∉ vs → (wipe σ vs)[i]? = σ[i]?) ∧ (i ∈ vs → i < σ.length → (wipe σ vs)[i]? = some none)
  | [] => ⟨fun _ => rfl, fun h => by simp at h⟩
  | v :: vs => by
    obtain ⟨h1, h2⟩ := wipe_get (σ := σ) (i := i) (vs := vs)
    constructor
    · intro h
      simp only [List.mem_cons, not_or] at h
      show ((wipe σ vs).set v none)[i]? = _
      rw [List.getElem?_set_ne (Ne.symm h.1)]
      exact h1 h.2
    · intro h hi
      show ((wipe σ vs).set v none)[i]? = _
      by_cases hv : v = i
      · subst hv
        rw [List.getElem?_set_self (by rw [wipe_length]; exact hi)]
      · rw [List.getElem?_set_ne hv]
        exact h2 ((List.mem_cons.mp h).resolve_left (fun z => hv z.symm)) hi
theorem unwipe_get {ρ0 ρ : En} (hl : ρ0.length = ρ.length) {i : Nat} : ∀ {vs : List Nat}, (unwipe ρ0 ρ vs).length = ρ.length ∧ (i ∉ vs → (unwipe ρ0 ρ vs)[i]? = ρ[i]?) ∧ (i ∈ vs → (unwipe ρ0 ρ vs)[i]? = ρ0[i]?)
  | [] => ⟨rfl, fun _ => rfl, fun h => by simp at h⟩
  | v :: vs => by
    obtain ⟨h0, h1, h2⟩ := unwipe_get (ρ0 := ρ0) (ρ := ρ) hl (i := i) (vs := vs)
    cases q : ρ0[v]? with
    | none =>
      have e : unwipe ρ0 ρ (v :: vs) = unwipe ρ0 ρ vs := by simp only [unwipe, q]
      rw [e]
      refine ⟨h0, fun h => h1 fun z => h (List.mem_cons_of_mem _ z), fun h => ?_⟩
      by_cases hv : i ∈ vs
      · exact h2 hv
      · have : i = v := (List.mem_cons.mp h).resolve_right hv
        subst this
        have : ρ0.length ≤ i := List.getElem?_eq_none_iff.mp q
        rw [h1 hv, q, List.getElem?_eq_none (by omega)]
    | some o =>
      have e : unwipe ρ0 ρ (v :: vs) = (unwipe ρ0 ρ vs).set v o := by simp only [unwipe, q]
      rw [e]
      refine ⟨by simp [h0], fun h => ?_, fun h => ?_⟩
      · simp only [List.mem_cons, not_or] at h
        rw [List.getElem?_set_ne (Ne.symm h.1)]
        exact h1 h.2
      · by_cases hv : v = i
        · subst hv
          have : v < ρ0.length := (List.getElem?_eq_some_iff.mp q).1
          rw [List.getElem?_set_self (by omega), q]
        · rw [List.getElem?_set_ne hv]
          exact h2 ((List.mem_cons.mp h).resolve_left (fun z => hv z.symm))
theorem own_wipe {ρ : En} {σ : St} {vs : List Nat} {x : Addr} (h : Own (wipeE ρ vs) (wipe σ vs) x) : ∃ (i : Nat) (t : T), i ∉ vs ∧ ρ[i]? = some (some t) ∧ t.own = true ∧ σ[i]? = some (some (.ref x)) := by
  obtain ⟨i, t, e, o, s⟩ := h
  have hi : i ∉ vs := fun z => wipeE_get.2 z t e
  rw [wipeE_get.1 hi] at e
  rw [wipe_get.1 hi] at s
  exact ⟨i, t, hi, e, o, s⟩
theorem Rel.wipe {G : Gx} {F H : Hp} {ρ : En} {σ : St} (R : Rel G F H ρ σ) (vs : List Nat) : Rel G F H (wipeE ρ vs) (L2.wipe σ vs) := by
  have sub : ∀ {i : Nat} {t : T}, (wipeE ρ vs)[i]? = some (some t) → i ∉ vs ∧ ρ[i]? = some (some t) := fun {i t} e => by
    have hi : i ∉ vs := fun z => wipeE_get.2 z t e
    rw [wipeE_get.1 hi] at e
    exact ⟨hi, e⟩
  refine ⟨by rw [wipeE_len, wipe_length]; exact R.len, R.sub, fun i t e => ?_, fun i j t u x ne ei oi si ej oj sj => ?_⟩
  · obtain ⟨hi, e⟩ := sub e
    rw [wipe_get.1 hi]
    exact R.rep i t e
  · obtain ⟨hi, ei⟩ := sub ei
    obtain ⟨hj, ej⟩ := sub ej
    rw [wipe_get.1 hi] at si
    rw [wipe_get.1 hj] at sj
    exact R.sep i j t u x ne ei oi si ej oj sj
/-- an object of no slot stands by -/
def OwnD (ρ : En) (σ : St) (p : Addr) : Addr → Prop := fun x => Own ρ σ x ∨ x = p
theorem Stp.by_ {O O' : Addr → Prop} {F H F' H' : Hp} (s : Stp O F H O' F' H') (p : Addr) : Stp (fun x => O x ∨ x = p) F H (fun x => O' x ∨ x = p) F' H' :=
  ⟨s.le, fun a u h n => s.fr a u h fun z => n (.inl z), fun a h => h.elim (fun z => (s.ow a z).imp_left .inl) fun z => .inl (.inr z), fun a h => (s.fz a h).imp_right fun z => z.imp_left .inl⟩

def dTests (ms : List DenB) : DenB := fun ρ => match ms with
  | [] => some (true, ρ)
  | [m] => m ρ
  | _ => none
def STs (X : Cx) (es : List Expr) (m : DenB) : Prop := ∃ te, PTs X es te ∧ ∀ (F H : Hp) (ρ : En) (σ : St) (b : Bool) (ρ' : En) (Q : Bool → Hp → Prop), Rel (gx X) F H ρ σ → m ρ = some (b, ρ') →
  (∀ F' H', PoN (gx X) F H ρ σ F' H' ρ' → Q b H') → te σ H Q
def dYes : DenB := fun ρ => some (true, ρ)
theorem sts_nil : STs X [] dYes := ⟨_, pts_nil, fun F H ρ σ b ρ' Q R e q => by cases e; exact q F H (.refl R)⟩
theorem sts_one {m : DenB} (h : ST X a m) : STs X [a] m := by
  obtain ⟨te, p, k⟩ := h
  exact ⟨te, pts_one p, k⟩
def cRun (vs : List Nat) (g : DenG) (mt : DenB) (me : Den) : List D → List D → En → Option (List D × En)
  | [], acc, ρ => some (acc, ρ)
  | d :: ds, acc, ρ => (g d ρ).bind fun ρ1 => (mt ρ1).bind fun p => if p.1 = true then (dD me p.2).bind fun q => if acc.length < sizeLine then cRun vs g mt me ds (acc ++ [q.1]) (wipeE q.2 vs) else none
      else cRun vs g mt me ds acc (wipeE p.2 vs)
def dComp (vs : List Nat) (mi : DenI) (g : DenG) (mt : DenB) (me : Den) : Den := fun ρ => (mi ρ).bind fun p => (cRun vs g mt me p.1 [] (wipeE p.2 vs)).bind fun q => some (.lst q.1, unwipe p.2 q.2 vs)
theorem ite_some' {α : Type} {c : Prop} [Decidable c] {x : Option α} {y : α} (h : (if c then x else none) = some y) : c ∧ x = some y := by
  by_cases hc : c
  · rw [if_pos hc] at h; exact ⟨hc, h⟩
  · rw [if_neg hc] at h; cases h
/-! ### readings that hang on the meaning alone -/
def canD (G : Gx) (m : DenD) : TE := fun σ H Q => ∃ F ρ d ρ', Rel G F H ρ σ ∧ m ρ = some (d, ρ') ∧ ∀ v F' H', PoD G F H ρ σ d v F' H' ρ' → Q v H'
def canB (G : Gx) (m : DenB) : TT := fun σ H Q => ∃ F ρ b ρ', Rel G F H ρ σ ∧ m ρ = some (b, ρ') ∧ ∀ F' H', PoN G F H ρ σ F' H' ρ' → Q b H'
def canG (G : Gx) (A : Nat → Bool) (R : Gx → Hp → D → V → Prop) (g : DenG) : TG := fun v σ H Q => ∃ F ρ d ρ', Rel G F H ρ σ ∧ R G F d v ∧ g d ρ = some ρ' ∧ ∀ σ' F' H', Got G A F H ρ σ F' H' ρ' σ' → Q σ' H'
theorem SD.can {m : DenD} (h : SD X e m) : PE X e (canD (gx X) m) := by
  obtain ⟨te, p, k⟩ := h
  exact ⟨fun pins s σ H Q I ⟨F, ρ, d, ρ', R, e, q⟩ => p.run pins s σ H Q I (k F H ρ σ d ρ' Q R e q)⟩
theorem STs.can {m : DenB} (h : STs X es m) : PTs X es (canB (gx X) m) := by
  obtain ⟨te, p, k⟩ := h
  exact ⟨fun pins s σ H Q I ⟨F, ρ, d, ρ', R, e, q⟩ => p.run pins s σ H Q I (k F H ρ σ d ρ' Q R e q)⟩
theorem SG.can {A : Nat → Bool} {R : Gx → Hp → D → V → Prop} {g : DenG} (h : SG X A R e g) : PG X e (canG (gx X) A R g) := by
  obtain ⟨te, p, k⟩ := h
  exact ⟨fun pins s σ H v u Q I rv ⟨F, ρ, d, ρ', R, rd, e, q⟩ => p.run pins s σ H v u Q I rv (k F H ρ σ d v ρ' Q R rd e q)⟩
/-- the parts in whatever block they run -/
structure Blk (X : Cx) (R : Gx → Hp → D → V → Prop) (scope : Scope) (own : List (Str × Nat)) (tg : Expr) (ifs : List Expr) (elt : Expr) (g : DenG) (mt : DenB) (me : Den) : Prop where
  tg : ∀ (s : Shared) (H : Hp) (C : Addr) (cl : List (Str × Addr)) (fp : List Addr), SG (X.blk s H scope (compEnvC scope cl C X.env) fp) (fun i => decide (i ∈ own.map (·.2))) R tg g
  ts : ∀ (s : Shared) (H : Hp) (C : Addr) (cl : List (Str × Addr)) (fp : List Addr), STs (X.blk s H scope (compEnvC scope cl C X.env) fp) ifs mt
  el : ∀ (s : Shared) (H : Hp) (C : Addr) (cl : List (Str × Addr)) (fp : List Addr), SE (X.blk s H scope (compEnvC scope cl C X.env) fp) elt me
theorem wipe_keep {vs : List Nat} {σ σ2 : St} (k : Keep (fun i => decide (i ∈ vs)) (wipe σ vs) σ2) : wipe σ2 vs = wipe σ vs := by
  have hl : σ2.length = σ.length := k.1.trans (wipe_length σ vs)
  apply List.ext_getElem?
  intro i
  by_cases hi : i ∈ vs
  · by_cases hl' : i < σ.length
    · rw [wipe_get.2 hi hl', wipe_get.2 hi (by omega)]
    · rw [List.getElem?_eq_none (by rw [wipe_length]; omega), List.getElem?_eq_none (by rw [wipe_length]; omega)]
  · rw [wipe_get.1 hi, k.2 i (by simp [hi])]
theorem run_comp {R : Gx → Hp → D → V → Prop} {vs : List Nat} {mi : DenI} {g : DenG} {mt : DenB} {me : Den} {wi : TI}
    (ki : ∀ (F H : Hp) (ρ : En) (σ : St) (ds : List D) (ρ' : En) (Q : It → Hp → Prop), Rel (gx X) F H ρ σ → mi ρ = some (ds, ρ') → (∀ J F' H', PoN (gx X) F H ρ σ F' H' ρ' → WalkD (gx X) R F' J ds → Q J H') → wi σ H Q)
    (F H : Hp) (ρ : En) (σ : St) (t : T) (ρ' : En) (Q : VK) (R0 : Rel (gx X) F H ρ σ) (e : dComp vs mi g mt me ρ = some (t, ρ')) (q : ∀ v F' H', PoE (gx X) F H ρ σ t v F' H' ρ' → Q v H') :
    tLc wi (canG (gx X) (fun i => decide (i ∈ vs)) R g) (canB (gx X) mt) (canD (gx X) (dD me)) vs σ H Q := by
  obtain ⟨⟨ds, ρ0⟩, e0, e⟩ := bind_some e
  obtain ⟨⟨acc, ρ1⟩, e1, e⟩ := bind_some e
  cases e
  refine ki F H ρ σ ds ρ0 _ R0 e0 fun J F0 H0 p0 W => fun p hp => ?_
  have Rb := p0.rel.wipe vs
  have hf0 : F0 p = none := p0.rel.sub.no hp
  have np0 : ¬ Own (wipeE ρ0 vs) (wipe σ vs) p := fun z => by
    obtain ⟨⟨u, eu⟩, _⟩ := Rb.own_at z
    rw [hp] at eu; cases eu
  -- the state between two turns
  let St1 : Nat → Hp → Prop := fun i H1 => ∃ F1 ρa us ac, Le F0 F1 ∧ Stp (Own (wipeE ρ0 vs) (wipe σ vs)) F0 H0 (fun x => Own ρa (wipe σ vs) x ∨ x = p) F1 H1 ∧ Rel (gx X) F1 H1 ρa (wipe σ vs) ∧ H1 p = some (.lst us) ∧ F1 p = none ∧ ¬ Own ρa (wipe σ vs) p ∧
    RepDs (gx X) F1 ac us ∧ cRun vs g mt me (ds.drop i) ac ρa = some (acc, ρ1)
  refine ⟨fun i k H1 => k = ds.length - i ∧ i ≤ ds.length ∧ St1 i H1, ⟨ds.length - 0, rfl, Nat.zero_le _, F0, wipeE ρ0 vs, [], [], Le.refl _, ?_, Rb.new hp, upd_same, hf0, np0, rfl, e1⟩, ?_⟩
  · refine ⟨Le.refl _, fun a u h _ => upd_le hp a u h, fun a h => ?_, fun _ z => .inl z⟩
    rcases h with h | h
    · exact .inl h
    · subst h; exact .inr hp
  rintro i k H1 ⟨rfl, hi, F1, ρa, us, ac, l1, s1, Ra, hH, hF, na, ra, ea⟩
  by_cases hlt : i < ds.length
  · obtain ⟨d, hd⟩ := getLt hlt
    have ea : cRun vs g mt me (d :: ds.drop (i + 1)) ac ρa = some (acc, ρ1) := by
      have : ds.drop i = d :: ds.drop (i + 1) := by
        rw [List.drop_eq_getElem_cons hlt]
        rw [List.getElem?_eq_getElem hlt] at hd
        cases hd
        rfl
      rw [this] at ea
      exact ea
    obtain ⟨ρb, e2, ea⟩ := bind_some ea
    obtain ⟨⟨b, ρc⟩, e3, ea⟩ := bind_some ea
    refine .inr ⟨W.go i H1 F1 l1 Ra.sub hlt, fun H2 => i + 1 ≤ ds.length ∧ St1 (i + 1) H2, fun H2 w => ⟨ds.length - (i + 1), by omega, rfl, w⟩, fun x H2 y => ?_⟩
    obtain ⟨d', F2, hd', l2, s2, fr, fz, rx⟩ := W.yl i H1 F1 x H2 l1 Ra.sub hlt y
    rw [hd] at hd'; cases hd'
    -- the item is there
    have stp2 : Stp (Own ρa (wipe σ vs)) F1 H1 (Own ρa (wipe σ vs)) F2 H2 := ⟨l2, fun a u h _ => fr a u h, fun _ h => .inl h, fun a z => (fz a z).imp_right .inr⟩
    have rel2 : Rel (gx X) F2 H2 ρa (wipe σ vs) := Ra.go l2 s2 fun a q => by
      obtain ⟨⟨u, eu⟩, fu⟩ := Ra.own_at q
      refine ⟨(fr a u eu).trans eu.symm, ?_⟩
      cases z : F2 a with
      | none => rfl
      | some w =>
        rcases fz a (by rw [z]; simp) with z | z
        · exact absurd fu z
        · rw [eu] at z; cases z
    -- what a step within the block leaves of the new list
    have stay : ∀ {Fa Ha Fb Hb : Hp} {ρx ρy : En} {σx σy : St}, Stp (Own ρx σx) Fa Ha (Own ρy σy) Fb Hb → Ha p = some (.lst us) → Fa p = none → ¬ Own ρx σx p → Hb p = some (.lst us) ∧ Fb p = none ∧ ¬ Own ρy σy p := fun {Fa Ha Fb Hb ρx ρy σx σy} s h f n => by
      refine ⟨s.fr p _ h n, ?_, fun z => ?_⟩
      · cases w : Fb p with
        | none => rfl
        | some u =>
          rcases s.fz p (by rw [w]; simp) with z | z | z
          · exact absurd f z
          · exact absurd z n
          · rw [h] at z; cases z
      · rcases s.ow p z with z | z
        · exact n z
        · rw [h] at z; cases z
    obtain ⟨hH2, hF2, na2⟩ := stay stp2 hH hF na
    refine ⟨F2, ρa, d, ρb, rel2, rx, e2, fun σ2 F2' H2' g2 => ⟨wipe_keep g2.kp, ?_⟩⟩
    obtain ⟨hH3, hF3, na3⟩ := stay g2.st hH2 hF2 na2
    have wk : wipe σ2 vs = wipe σ vs := wipe_keep g2.kp
    -- from the turn's state, by way of the block's names, to the next one
    have next : ∀ {Fx Hx : Hp} {ρx : En} {u2 : List V} {ac2 : List D}, Stp (Own ρb σ2) F2' H2' (Own ρx σ2) Fx Hx → Rel (gx X) Fx Hx ρx σ2 → Hx p = some (.lst us) → Fx p = none → ¬ Own ρx σ2 p → RepDs (gx X) Fx ac2 u2 →
        cRun vs g mt me (ds.drop (i + 1)) ac2 (wipeE ρx vs) = some (acc, ρ1) → St1 (i + 1) (upd Hx p (.lst u2)) := by
      intro Fx Hx ρx u2 ac2 sx Rx hHx hFx nx rx2 ex
      have sAll : Stp (Own ρa (wipe σ vs)) F1 H1 (Own ρx σ2) Fx Hx := (stp2.trans g2.st).trans sx
      have sub : ∀ y, Own (wipeE ρx vs) (wipe σ vs) y → Own ρx σ2 y := fun y z => by
        rw [← wk] at z
        obtain ⟨j, t, hj, e, o, s⟩ := own_wipe z
        exact ⟨j, t, e, o, s⟩
      have nx' : ¬ Own (wipeE ρx vs) (wipe σ vs) p := fun z => nx (sub p z)
      have Rw : Rel (gx X) Fx Hx (wipeE ρx vs) (wipe σ vs) := by
        have := Rx.wipe vs
        rw [wk] at this
        exact this
      refine ⟨Fx, wipeE ρx vs, u2, ac2, l1.trans sAll.le, ?_, ?_, upd_same, hFx, nx', rx2, ex⟩
      · have s3 := sAll.by_ p
        refine s1.trans (O1 := fun x => Own ρa (wipe σ vs) x ∨ x = p) ?_
        refine ⟨s3.le, fun a u h n => ?_, fun a h => ?_, s3.fz⟩
        · have : a ≠ p := fun z => n (.inr z)
          rw [upd_ne this]
          exact s3.fr a u h n
        · rcases h with h | h
          · exact s3.ow a (.inl (sub a h))
          · exact .inl (.inr h)
      · refine Rw.go (Le.refl _) (fun a u h => ?_) fun a o => ?_
        · have : a ≠ p := fun z => by subst z; rw [hFx] at h; cases h
          rw [upd_ne this]
          exact Rw.sub a u h
        · have : a ≠ p := fun z => nx' (z ▸ o)
          exact ⟨upd_ne this, (Rw.own_at o).2⟩
    refine ⟨F2', ρb, b, ρc, g2.rel, e3, fun F3 H3 p3 => ?_⟩
    obtain ⟨hH4, hF4, na4⟩ := stay p3.st hH3 hF3 na3
    cases b with
    | false =>
      rw [if_neg Bool.false_ne_true] at ea ⊢
      refine ⟨hlt, ?_⟩
      have := next p3.st p3.rel hH4 hF4 na4 (RepDs.le ((stp2.trans g2.st).trans p3.st).le ra) ea
      rw [show upd H3 p (.lst us) = H3 from by
        funext y
        by_cases hy : y = p
        · subst hy; rw [upd_same, hH4]
        · rw [upd_ne hy]] at this
      exact this
    | true =>
      rw [if_pos rfl] at ea ⊢
      obtain ⟨⟨y, ρd⟩, e4, ea⟩ := bind_some ea
      obtain ⟨hz, ea⟩ := ite_some' ea
      refine ⟨F3, ρc, y, ρd, p3.rel, e4, fun yv F4 H4 p4 => ?_⟩
      obtain ⟨hH5, hF5, na5⟩ := stay p4.st hH4 hF4 na4
      have le4 := (((stp2.trans g2.st).trans p3.st).trans p4.st).le
      have r4 := RepDs.le le4 ra
      refine ⟨us, hH5, by rw [← r4.length]; exact hz, hlt, ?_⟩
      exact next (p3.st.trans p4.st) p4.rel hH5 hF5 na5 (r4.append (RepDs.one p4.rep)) ea
  · have ei : i = ds.length := by omega
    subst ei
    rw [List.drop_length] at ea
    cases ea
    refine .inl ⟨W.stop H1 F1 l1 Ra.sub, ?_⟩
    -- the block is left
    have hlen : ρ0.length = ρ1.length := by
      have h1 := Ra.len
      have h2 := p0.rel.len
      have h3 := wipe_length σ vs
      omega
    have subs : ∀ x, Own (wipeE ρ0 vs) (wipe σ vs) x → Own ρ0 σ x := fun x z => by
      obtain ⟨j, t, hj, e, o, s⟩ := own_wipe z
      exact ⟨j, t, e, o, s⟩
    -- a slot of the block's names holds an object that the block never saw
    have hid : ∀ (j : Nat) (t : T) (x : Addr), j ∈ vs → ρ0[j]? = some (some t) → t.own = true → σ[j]? = some (some (.ref x)) → ¬ Own (wipeE ρ0 vs) (wipe σ vs) x ∧ (∃ u, H0 x = some u) ∧ F0 x = none := fun j t x hj e o s => by
      refine ⟨fun z => ?_, p0.rel.own_at ⟨j, t, e, o, s⟩⟩
      obtain ⟨k, u, hk, ek, ok, sk⟩ := own_wipe z
      have : j ≠ k := fun z => by subst z; exact hk hj
      exact p0.rel.sep j k t u x this e o s ek ok sk
    have kept : ∀ (j : Nat) (t : T) (x : Addr), j ∈ vs → ρ0[j]? = some (some t) → t.own = true → σ[j]? = some (some (.ref x)) → H1 x = H0 x ∧ F1 x = none ∧ ¬ Own ρ1 (wipe σ vs) x ∧ x ≠ p := fun j t x hj e o s => by
      obtain ⟨n, ⟨u, eu⟩, f⟩ := hid j t x hj e o s
      refine ⟨(s1.fr x u eu n).trans eu.symm, ?_, fun z => ?_, fun z => ?_⟩
      · cases w : F1 x with
        | none => rfl
        | some y =>
          rcases s1.fz x (by rw [w]; simp) with z | z | z
          · exact absurd f z
          · exact absurd z n
          · rw [eu] at z; cases z
      · rcases s1.ow x (.inl z) with z | z
        · exact n z
        · rw [eu] at z; cases z
      · subst z; rw [hp] at eu; cases eu
    have back : ∀ {j : Nat} {t : T}, (unwipe ρ0 ρ1 vs)[j]? = some (some t) → (j ∈ vs ∧ ρ0[j]? = some (some t)) ∨ (j ∉ vs ∧ ρ1[j]? = some (some t)) := fun {j t} e => by
      obtain ⟨_, h1, h2⟩ := unwipe_get hlen (i := j) (vs := vs)
      by_cases hj : j ∈ vs
      · rw [h2 hj] at e; exact .inl ⟨hj, e⟩
      · rw [h1 hj] at e; exact .inr ⟨hj, e⟩
    have outs : ∀ {j : Nat} {t : T} {x : Addr}, j ∉ vs → ρ1[j]? = some (some t) → t.own = true → σ[j]? = some (some (.ref x)) → Own ρ1 (wipe σ vs) x := fun {j t x} hj e o s => ⟨j, t, e, o, by rw [wipe_get.1 hj]; exact s⟩
    refine q (.ref p) F1 H1 (p0.trE ⟨⟨s1.le, fun a u h n => s1.fr a u h fun z => n (subs a z), fun a z => ?_, fun a z => ?_⟩, ⟨?_, Ra.sub, fun j t e => ?_, fun i j t u x ne ei oi si ej oj sj => ?_⟩, ⟨p, us, rfl, hH, hF, ra⟩, fun a _ ev => ?_⟩)
    · obtain ⟨j, t, e, o, s⟩ := z
      rcases back e with ⟨hj, e⟩ | ⟨hj, e⟩
      · exact .inl ⟨j, t, e, o, s⟩
      · exact (s1.ow a (.inl (outs hj e o s))).imp_left (subs a)
    · rcases s1.fz a z with z | z | z
      · exact .inl z
      · exact .inr (.inl (subs a z))
      · exact .inr (.inr z)
    · rw [(unwipe_get hlen (i := 0) (vs := vs)).1, ← hlen]
      exact p0.rel.len
    · rcases back e with ⟨hj, e⟩ | ⟨hj, e⟩
      · obtain ⟨v, h1, h2⟩ := p0.rel.rep j t e
        refine ⟨v, h1, h2.go s1.le fun x o ev => ?_⟩
        obtain ⟨k1, k2, _⟩ := kept j t x hj e o (by rw [h1, ev])
        exact ⟨k1, k2⟩
      · obtain ⟨v, h1, h2⟩ := Ra.rep j t e
        rw [wipe_get.1 hj] at h1
        exact ⟨v, h1, h2⟩
    · rcases back ei with ⟨hi', ei⟩ | ⟨hi', ei⟩
      · rcases back ej with ⟨hj, ej⟩ | ⟨hj, ej⟩
        · exact p0.rel.sep i j t u x ne ei oi si ej oj sj
        · exact (kept i t x hi' ei oi si).2.2.1 (outs hj ej oj sj)
      · rcases back ej with ⟨hj, ej⟩ | ⟨hj, ej⟩
        · exact (kept j u x hj ej oj sj).2.2.1 (outs hi' ei oi si)
        · exact Ra.sep i j t u x ne ei oi (by rw [wipe_get.1 hi']; exact si) ej oj (by rw [wipe_get.1 hj]; exact sj)
    · cases ev
      refine ⟨fun ⟨j, t, e, o, s⟩ => ?_, .inr hp⟩
      rcases back e with ⟨hj, e⟩ | ⟨hj, e⟩
      · exact (kept j t p hj e o s).2.2.2 rfl
      · exact na (outs hj e o s)
theorem se_comp {R : Gx → Hp → D → V → Prop} {tg iter elt : Expr} {ifs : List Expr} {scope : Scope} {own : List (Str × Nat)} {mi : DenI} {g : DenG} {mt : DenB} {me : Den} (hc : X.calm = true) (hN : X.N.Nodup) (hi : SI X R tg iter mi) (ok : BlkOk X.N X.env.scope scope own)
    (B : Blk X R scope own tg ifs elt g mt me) (hs : ∀ x, foldedSetIterable iter X.env x = pure x) : SE X (.ListComp elt [⟨tg, iter, ifs, 0⟩] scope pos) (dComp (own.map (·.2)) mi g mt me) := by
  obtain ⟨wi, pi, ki⟩ := hi
  exact ⟨_, pe_lc (g := canG (gx X) (fun i => decide (i ∈ own.map (·.2))) R g) (tt := canB (gx X) mt) (te := canD (gx X) (dD me)) hc hN pi ok (fun s H C cl fp => (B.tg s H C cl fp).can) (fun s H C cl fp => (B.ts s H C cl fp).can) (fun s H C cl fp => (B.el s H C cl fp).d.can) hs, run_comp ki⟩
/-- name = [..]: where the comprehension's end and the store are one -/
theorem ss_setComp {A : Nat → Bool} {R : Gx → Hp → D → V → Prop} {i : Nat} {y : Str} {py : Pos} {spos : Pos} {tg iter elt : Expr} {ifs : List Expr} {scope : Scope} {own : List (Str × Nat)} {mi : DenI} {g : DenG} {mt : DenB} {me : Den} (hc : X.calm = true) (hN : X.N.Nodup) (hy : X.N[i]? = some y)
    (hyl : X.env.scope.names.lookup y = some .local) (hsw : swapsWith (.ListComp elt [⟨tg, iter, ifs, 0⟩] scope pos) (some (.Name y py)) spos.line X.env = pure true) (hA : A i = true) (hi : SI X R tg iter mi) (ok : BlkOk X.N X.env.scope scope own)
    (B : Blk X R scope own tg ifs elt g mt me) (hs : ∀ x, foldedSetIterable iter X.env x = pure x) : SS X A (.Assign [.Name y py] (.ListComp elt [⟨tg, iter, ifs, 0⟩] scope pos) spos) (sSet i (dComp (own.map (·.2)) mi g mt me)) := by
  obtain ⟨wi, pi, ki⟩ := hi
  refine ⟨_, ps_setLc (g := canG (gx X) (fun i => decide (i ∈ own.map (·.2))) R g) (tt := canB (gx X) mt) (te := canD (gx X) (dD me)) hc hN hy hyl hsw pi ok (fun s H C cl fp => (B.tg s H C cl fp).can) (fun s H C cl fp => (B.ts s H C cl fp).can) (fun s H C cl fp => (B.el s H C cl fp).d.can) hs, fun F H ρ σ o ρ' D R e f => ?_⟩
  obtain ⟨⟨t, ρ1⟩, e1, e⟩ := bind_some e
  cases e
  exact run_comp ki F H ρ σ t _ _ R e1 fun v F' H' po => f _ F' H' (po.set hA)
end VI

set_option Elab.async false
set_option linter.all false
set_option maxRecDepth 100000
set_option maxHeartbeats 4000000
/-! VM: x[i] as a target, x[i] op= e, several names at once -/
namespace VI
open PySem PySem.Spec L2
open PyProof.Rows hiding St
variable {X : Cx} {a b c e : Expr} {es : List Expr} {pos : Pos} {A : Nat → Bool}

def gSubIx (i : Nat) (mi : Den) : DenG := fun d ρ => (here i ρ).bind fun _ => (dD mi ρ).bind fun q => (here i q.2).bind fun t => (setT t q.1 d).bind fun t' => some (q.2.set i (some t'))
theorem sg_subIx {i : Nat} {x : Str} {mi : Den} {p p2 : Pos} (hu : X.A.units + 1 < cLine) (hN : X.N[i]? = some x) (hv : Vis X.env.scope x) (hd : (x == ("__debug__" : Str)) = false) (hcd : (x == ("__classdict__" : Str)) = false) (hi : SE X b mi)
    (ha : ∀ v, assign (.Subscript (.Name x p) b p2) X.env v = (do
      let ov ← holding [v] (eval (.Name x p) X.env)
      let iv ← holding [v, ov] (eval b X.env)
      standAt p2
      holding [v, ov, iv] (setItem ov iv v)
      release [v, ov, iv] [])) : SG X A RepD (.Subscript (.Name x p) b p2) (gSubIx i mi) := by
  obtain ⟨ti, pi, ki⟩ := hi.d
  refine ⟨_, pg_sub (pe_var hN hv hd hcd) pi (PSet.or set_list (set_dict hu)) ha, fun F H ρ σ d v ρ' Q R r e q => ?_⟩
  obtain ⟨t1, e2, e⟩ := bind_some e
  obtain ⟨⟨k, ρ2⟩, e3, e⟩ := bind_some e
  obtain ⟨t, e4, e⟩ := bind_some e
  obtain ⟨t', e5, e⟩ := bind_some e
  cases e
  obtain ⟨v0, hs0, r0⟩ := R.here e2
  refine ⟨v0, hs0, ki F H ρ σ k ρ2 _ R e3 fun vk F2 H2 p2 => ?_⟩
  obtain ⟨o1, o2⟩ := setT_own e5
  obtain ⟨v2, hs2, r2⟩ := p2.rel.here e4
  rw [hs0] at hs2; cases hs2
  obtain ⟨pa, u, ev, _, _, _, _⟩ := r2.at_ o1
  subst ev
  exact run_set p2.rel e4 hs0 p2.rep (RepD.le p2.st.le r) e5 fun u r => q σ F2 _ (p2.n.got.upd e4 o1 hs0 o2 r)

/-! ### x[i] op= e -/
def tGetL (K : PySem.W.Frag) : V → V → Hp → VK → Prop := fun o i H Q => ∃ p xs k v, o = .ref p ∧ i = .int k ∧ SqL K H p xs ∧ atI xs k = some v ∧ Q v H
theorem pget_list : PGet X (tGetL X.K) := by
  intro pins s σ H o i ov iv Q I ro ri h
  obtain ⟨p, xs, k, z, rfl, rfl, hq, he, q⟩ := h
  cases ro
  obtain ⟨t, rfl⟩ := ri
  obtain ⟨its, r, pl, hz⟩ := I.list hq
  obtain ⟨j, h1, h2, h3, h4, h5⟩ := atI_get he
  obtain ⟨w, ew, rw'⟩ := r.get h2
  have hl := r.length
  have hn := line63
  have fin : EP X pins σ Q w s := ⟨z, H, I, rw', q⟩
  by_cases h0 : 0 ≤ k
  · have hj : k.toNat = j := by
      rw [seqIndex_of h0 h5] at h1
      exact Option.some.inj h1
    exact wpAny_getItem_list pl.isList h0 (by omega) (by rw [hj]; simpa using ew) fin
  · have hj : (k + (its.toArray.size : Int)).toNat = j := by
      rw [seqIndex_neg (by omega) h4] at h1
      rw [List.size_toArray, ← hl]
      exact Option.some.inj h1
    exact wpAny_getItem_list_neg pl.isList (by omega) (by rw [List.size_toArray] <;> omega) (by omega) (by rw [hj]; simpa using ew) fin
theorem pget_dict (hu : X.A.units + 1 < cLine) : PGet X rIxD := by
  intro pins s σ H o i ov iv Q I ro ri h
  obtain ⟨a, z, rfl, g, q⟩ := h
  obtain rfl : ov = Value.ref a := ro
  exact d_getItem hu I g ri fun w' s3 I3 rw' => ⟨z, H, I3, rw', q⟩
theorem PGet.or {t t' : V → V → Hp → VK → Prop} (h : PGet X t) (h' : PGet X t') : PGet X (fun o i H Q => t o i H Q ∨ t' o i H Q) := fun pins s σ H o i ov iv Q I ro ri q => q.elim (h pins s σ H o i ov iv Q I ro ri) (h' pins s σ H o i ov iv Q I ro ri)
def tGetAll (K : PySem.W.Frag) : V → V → Hp → VK → Prop := fun o i H Q => tGetL K o i H Q ∨ rIxD o i H Q
def getT : T → D → Option D
  | .lst xs, .int k => atI xs k
  | .dct ks ds, k => (keyD k).bind fun k => dlook ks ds k
  | _, _ => none
theorem getT_own {t : T} {k d : D} (h : getT t k = some d) : t.own = true := by
  cases t with
  | lf _ => cases h
  | _ => rfl
theorem run_get {G : Gx} {F H : Hp} {ρ : En} {σ : St} {i : Nat} {t : T} {k d : D} {vk : V} {p : Addr} (R : Rel G F H ρ σ) (h : VI.here i ρ = some t) (hs : σ[i]? = some (some (.ref p))) (rk : RepD G F k vk) (e : getT t k = some d) {Q : VK} (q : ∀ v, RepD G F d v → Q v H) : tGetAll G.K (.ref p) vk H Q := by
  obtain ⟨v', hsv', r⟩ := R.here h
  rw [hs] at hsv'; cases hsv'
  cases t with
  | lst xs =>
    cases k with
    | int j0 =>
      obtain ⟨p', us, e2, hH, hF, r1⟩ := r
      cases e2
      obtain ⟨v, e3, r3⟩ := r1.atI e
      exact .inl ⟨p, us, j0, v, rfl, rk, SqL.of hH, e3, q v r3⟩
    | _ => cases e
  | dct ks ds =>
    have e : ((keyD k).bind fun k => dlook ks ds k) = some d := e
    obtain ⟨x, e1, e⟩ := bind_some e
    obtain ⟨p', us, e2, hH, hF, l, r1⟩ := r
    cases e2
    obtain ⟨v, e3, r3⟩ := (dlook_rep x r1 l).1 d e
    exact .inr ⟨p, v, rfl, .inl ⟨_, x, .inl hH, keyD_rep e1 rk, e3.symm⟩, q v r3⟩
  | _ => cases e
def sAugIx (g : D → D → Option T) (i : Nat) (mi me : Den) : DenS := fun ρ => (here i ρ).bind fun _ => (dD mi ρ).bind fun p => (here i p.2).bind fun t => (getT t p.1).bind fun x => (dD me p.2).bind fun q => (g x q.1).bind fun z => match z with
  | .lf z => (here i q.2).bind fun t2 => (setT t2 p.1 z).bind fun t' => some (.nx, q.2.set i (some t'))
  | _ => none
theorem ss_augIx {i : Nat} {x : Str} {op : Operator} {g : D → D → Option T} {mi me : Den} {p p2 : Pos} (hu : X.A.units + 1 < cLine) (ho : OpD X (inplaceOp op) g) (hN : X.N[i]? = some x) (hv : Vis X.env.scope x) (hd : (x == ("__debug__" : Str)) = false) (hcd : (x == ("__classdict__" : Str)) = false)
    (hi : SE X b mi) (he : SE X e me) (ha : ∀ ov iv new, augStore b ov iv new = (do holding [new, ov, iv] (setItem ov iv new); release [new, ov, iv] []; pure .next)) : SS X A (.AugAssign (.Subscript (.Name x p) b p2) op e pos) (sAugIx g i mi me) := by
  obtain ⟨te, pe, ke⟩ := he.d
  obtain ⟨ti, pi, ki⟩ := hi.d
  obtain ⟨r, hr, hg⟩ := ho
  refine ⟨_, ps_augS (pe_var hN hv hd hcd) pi (PGet.or pget_list (pget_dict hu)) pe hr (PSet.or set_list (set_dict hu)) ha, fun F H ρ σ o ρ' D R e f => ?_⟩
  obtain ⟨t1, e1, e⟩ := bind_some e
  obtain ⟨⟨k, ρ1⟩, e2, e⟩ := bind_some e
  obtain ⟨t, e3, e⟩ := bind_some e
  obtain ⟨x0, e4, e⟩ := bind_some e
  obtain ⟨⟨y, ρ2⟩, e5, e⟩ := bind_some e
  obtain ⟨z, e6, e⟩ := bind_some e
  cases z with
  | lf z =>
    obtain ⟨t2, e7, e⟩ := bind_some e
    obtain ⟨t', e8, e⟩ := bind_some e
    cases e
    obtain ⟨v0, hs0, r0⟩ := R.here e1
    refine ⟨v0, hs0, ki F H ρ σ k ρ1 _ R e2 fun vk F1 H1 p1 => ?_⟩
    obtain ⟨v1, hs1, r1⟩ := p1.rel.here e3
    rw [hs0] at hs1; cases hs1
    obtain ⟨pa, u, ev, _, _, _, _⟩ := r1.at_ (getT_own e4)
    subst ev
    refine run_get p1.rel e3 hs0 p1.rep e4 fun vx rx => ?_
    refine ke F1 H1 ρ1 σ y ρ2 _ p1.rel e5 fun vy F2 H2 p2 => ?_
    refine hg F2 H2 vx vy x0 y _ _ p2.rel.sub (RepD.le p2.st.le rx) p2.rep e6 fun vz F3 H3 pv => ?_
    have p3 := pv.poE p2.rel
    obtain ⟨o1, o2⟩ := setT_own e8
    exact run_set p3.rel e7 hs0 (RepD.le (p2.st.le.trans p3.st.le) p1.rep) p3.rep e8 fun u r => f σ F3 _ (((p1.n.tr p2.n).tr p3.n).got.upd e7 o1 hs0 o2 r)
  | _ => cases e

/-! ### a, b = .. -/
def sAsgG (m : Den) (g : DenG) : DenS := fun ρ => (dD m ρ).bind fun p => (g p.1 p.2).bind fun ρ' => some (.nx, ρ')
theorem ss_asgG {tg : Expr} {m : Den} {g : DenG} (he : SE X e m) (hg : SG X A RepD tg g) (hs : swapsWithSole [tg] e pos.line X.env = pure false) (hw : swappedStores [tg] e X.env = pure none) (h1 : (assignEach [tg] X.env).map (·.2) = [assign tg X.env]) : SS X A (.Assign [tg] e pos) (sAsgG m g) := by
  obtain ⟨te, pe, ke⟩ := he.d
  obtain ⟨r, pg, kg⟩ := hg
  refine ⟨_, ps_asg pe pg hs hw h1, fun F H ρ σ o ρ' D R e f => ?_⟩
  obtain ⟨⟨d, ρ1⟩, e1, e⟩ := bind_some e
  obtain ⟨ρ2, e2, e⟩ := bind_some e
  cases e
  exact ke F H ρ σ d ρ1 _ R e1 fun v F1 H1 p1 => kg F1 H1 ρ1 σ d v _ _ p1.rel p1.rep e2 fun σ2 F2 H2 g2 => f σ2 F2 H2 (p1.n.got.tr g2)
theorem GotV.set {G : Gx} {F H F1 H1 : Hp} {ρ ρ1 : En} {σ σ1 : St} {t : T} {v : V} (p : GotV G A F H ρ σ t v F1 H1 ρ1 σ1) {i : Nat} (hA : A i = true) : Got G A F H ρ σ F1 H1 (ρ1.set i (some t)) (σ1.set i (some v)) := by
  refine ⟨⟨p.st.le, p.st.fr, fun x h => ?_, p.st.fz⟩, p.rel.set p.rep fun a o e => (p.new a o e).1, by simp [p.kp.1], fun j hj => ?_⟩
  · rcases own_set h p.rel.len with q | ⟨o, e⟩
    · exact p.st.ow x q
    · exact (p.new x o e).2
  · have : i ≠ j := fun z => by subst z; rw [hA] at hj; cases hj
    rw [List.getElem?_set_ne this]
    exact p.kp.2 j hj
/-- two results, the first still whole -/
theorem two_set {G : Gx} {F H F1 H1 F2 H2 : Hp} {ρ ρ1 ρ2 : En} {σ : St} {t u : T} {v w : V} {i j : Nat} (p1 : PoE G F H ρ σ t v F1 H1 ρ1) (p2 : PoE G F1 H1 ρ1 σ u w F2 H2 ρ2) (hA : A i = true) (hB : A j = true) :
    Got G A F H ρ σ F2 H2 ((ρ2.set i (some t)).set j (some u)) ((σ.set i (some v)).set j (some w)) := by
  have kept : ∀ a, t.own = true → v = .ref a → H2 a = H1 a ∧ F2 a = none := by
    intro a o e
    obtain ⟨n1, n2⟩ := p1.new a o e
    obtain ⟨b, x, e', h1, h2, _, _⟩ := p1.rep.at_ o
    rw [e] at e'; cases e'
    refine ⟨(p2.st.fr a x h1 n1).trans h1.symm, ?_⟩
    cases hz : F2 a with
    | none => rfl
    | some z =>
      rcases p2.st.fz a (by rw [hz]; exact fun k => by cases k) with q | q | q
      · exact absurd h2 q
      · exact absurd q n1
      · rw [h1] at q; cases q
  have p1' : PoE G F H ρ σ t v F2 H2 ρ2 := ⟨p1.st.trans p2.st, p2.rel, p1.rep.go p2.st.le kept, fun a o e => by
    obtain ⟨n1, n2⟩ := p1.new a o e
    obtain ⟨b, x, e', h1, h2, _, _⟩ := p1.rep.at_ o
    rw [e] at e'; cases e'
    refine ⟨fun q => ?_, n2⟩
    rcases p2.st.ow a q with q | q
    · exact n1 q
    · rw [h1] at q; cases q⟩
  have g1 := p1'.set (i := i) hA
  have new2 : ∀ a, u.own = true → w = .ref a → ¬ Own (ρ2.set i (some t)) (σ.set i (some v)) a ∧ (Own ρ σ a ∨ H a = none) := by
    intro a o e
    obtain ⟨n1, n2⟩ := p2.new a o e
    refine ⟨fun q => ?_, p1.st.came n2⟩
    rcases own_set q p2.rel.len with q | ⟨o', e'⟩
    · exact n1 q
    · obtain ⟨m1, m2⟩ := p1.new a o' e'
      obtain ⟨b, x, e2, h1, h2, _, _⟩ := p1.rep.at_ o'
      rw [e'] at e2; cases e2
      rcases n2 with q | q
      · exact m1 q
      · rw [h1] at q; cases q
  have g2 : GotV G A F H ρ σ u w F2 H2 (ρ2.set i (some t)) (σ.set i (some v)) := { g1 with rep := p2.rep, new := new2 }
  exact g2.set hB
/-- two names at once, both sides written -/
def sPar (i j : Nat) (ma mb : Den) : DenS := fun ρ => (ma ρ).bind fun p => (mb p.2).bind fun q => some (.nx, (q.2.set i (some p.1)).set j (some q.1))
theorem ss_par {i j : Nat} {x y : Str} {ma mb : Den} {px py pt : Pos} {kt k2 pt2} (hc : X.calm = true) (hN : X.N.Nodup) (hi : X.N[i]? = some x) (hj : X.N[j]? = some y) (hij : i ≠ j) (hx : X.env.scope.names.lookup x = some .local) (hy : X.env.scope.names.lookup y = some .local)
    (hA : A i = true) (hB : A j = true) (ha : SE X a ma) (hb : SE X b mb) (hs1 : starEach [a, b] X.env = (false, eval a X.env) :: starEach [b] X.env) (hs2 : starEach [b] X.env = (false, eval b X.env) :: starEach [] X.env) (hw : swappedStores [.Tuple [.Name x px, .Name y py] kt pt] (.Tuple [a, b] k2 pt2) X.env = pure (some [x, y])) :
    SS X A (.Assign [.Tuple [.Name x px, .Name y py] kt pt] (.Tuple [a, b] k2 pt2) pos) (sPar i j ma mb) := by
  obtain ⟨ta, pa, ka⟩ := ha
  obtain ⟨tb, pb, kb⟩ := hb
  refine ⟨_, ps_par hc hN hi hj hij hx hy (pa_cons pa (pa_cons pb pa_nil hs2) hs1) hw, fun F H ρ σ o ρ' D R e f => ?_⟩
  obtain ⟨⟨t, ρ1⟩, e1, e⟩ := bind_some e
  obtain ⟨⟨u, ρ2⟩, e2, e⟩ := bind_some e
  cases e
  refine ka F H ρ σ t ρ1 _ R e1 fun v F1 H1 p1 => ?_
  refine kb F1 H1 ρ1 σ u ρ2 _ p1.rel e2 fun w F2 H2 p2 => ?_
  exact ⟨v, w, rfl, f _ F2 H2 (two_set p1 p2 hA hB)⟩
end VI

set_option Elab.async false
set_option linter.all false
set_option maxRecDepth 100000
set_option maxHeartbeats 4000000
/-! VN: from the text to its meaning -/
namespace VI
open PySem PySem.Spec L2
open PyProof.Rows hiding St

structure CE where
  N : List Str
  sc : Scope
  own : Str → Bool
  A : Nat → Bool
  np : Nat
  fns : List (Str × List Bool × Fn)
  cons : List (Str × D)
  free : List Str

structure Good (ce : CE) (X : Cx) (k : Nat) : Prop where
  N : X.N = ce.N
  nd : ce.N.Nodup
  sc : X.env.scope = ce.sc
  kind : X.env.scope.kind = .function
  calm : X.calm = true
  room : Room k X.A
  own : ∀ x, ce.own x = true → X.fn x = true
  fns : ∀ p ∈ ce.fns, Cal X k p.1 p.2.2
  cons : ∀ p ∈ ce.cons, ∃ v u, X.mg p.1 = some u ∧ RelV v u ∧ ∀ F, RepD (gx X) F p.2 v
  free : ∀ x ∈ ce.free, X.mg x = none

section
variable {ce : CE} {X : Cx} {k : Nat}
theorem Good.hu64 (g : Good ce X k) : X.A.units + 64 < cLine := g.room.units
theorem Good.hu65 (g : Good ce X k) : X.A.units + 65 < cLine := by have := g.room.un; omega
theorem Good.hu1 (g : Good ce X k) : X.A.units + 1 < cLine := hu_of g.room
end

/-! ### what the text's parts are -/
def notStar : Expr → Bool
  | .Starred _ _ => false
  | _ => true
theorem star_cons {a : Expr} (es : List Expr) (env : Env) (h : notStar a = true) : starEach (a :: es) env = (false, eval a env) :: starEach es env := by
  cases a <;> first | rfl | cases h
theorem star_plain (pos : Pos) (env : Env) : ∀ es : List Expr, es.all notStar = true → (backTo pos (starEach es env)).any (·.1) = false
  | [], _ => rfl
  | a :: es, h => by
    simp only [List.all_cons, Bool.and_eq_true] at h
    rw [star_cons es env h.1]
    show (false || (backTo pos (starEach es env)).any (·.1)) = false
    rw [star_plain pos env es h.2]
    rfl
theorem few_one (cpos : Pos) {e : Expr} (env : Env) (h : notStar e = true) : ((backTo cpos (starEach [e] env)).all (fun x => !x.1) && (backToKw cpos (keywordEach [] env)).all (fun x => x.1.isSome) && decide (([e] : List Expr).length + ([] : List Keyword).length + (if ([] : List Keyword).isEmpty then 0 else 1) < 30)) = true := by
  rw [star_cons [] env h]
  rfl
theorem few_all (cpos : Pos) {e : Expr} {es : List Expr} (env : Env) (h : notStar e = true) (hs : es.all notStar = true) (hl : es.length < 20) : ((backTo cpos (starEach (e :: es) env)).all (fun x => !x.1) && (backToKw cpos (keywordEach [] env)).all (fun x => x.1.isSome) && decide ((e :: es).length + ([] : List Keyword).length + (if ([] : List Keyword).isEmpty then 0 else 1) < 30)) = true := by
  have h1 := star_plain cpos env es hs
  rw [star_cons es env h]
  have h2 : (backTo cpos ((false, eval e env) :: starEach es env)).all (fun x => !x.1) = true := by
    show (!false && (backTo cpos (starEach es env)).all (fun x => !x.1)) = true
    rw [Bool.not_false, Bool.true_and, List.all_eq_true]
    intro x hx
    rw [List.any_eq_false] at h1
    simpa using h1 x hx
  rw [h2]
  have h3 : (backToKw cpos (keywordEach [] env)).all (fun x => x.1.isSome) = true := rfl
  rw [h3]
  simp
  omega
def notSet : Expr → Bool
  | .Set _ _ _ => false
  | _ => true
theorem fold_set {e : Expr} (env : Env) (h : notSet e = true) (x : Value) : foldedSetIterable e env x = pure x := by
  cases e <;> first | rfl | cases h
def notSlice : Expr → Bool
  | .Slice _ _ _ _ => false
  | _ => true
theorem plain_ix {e : Expr} (h : notSlice e = true) : PlainIx e := by
  intro o i
  cases e <;> first | rfl | cases h
theorem plain_assign {a b : Expr} {p : Pos} (env : Env) (h : notSlice b = true) : ∀ v, assign (.Subscript a b p) env v = (do
      let ov ← holding [v] (eval a env)
      let iv ← holding [v, ov] (eval b env)
      standAt p
      holding [v, ov, iv] (setItem ov iv v)
      release [v, ov, iv] []) := by
  intro v
  cases b <;> first | rfl | cases h
theorem plain_aug {b : Expr} (h : notSlice b = true) : ∀ ov iv new, augStore b ov iv new = (do holding [new, ov, iv] (setItem ov iv new); release [new, ov, iv] []; pure .next) := by
  intro ov iv new
  cases b <;> first | rfl | cases h
def plainTest : Expr → Bool
  | .Name _ _ => true
  | .Call _ _ _ _ => true
  | .Subscript _ _ _ => true
  | .BinOp _ _ _ _ => true
  | .Attribute _ _ _ => true
  | .Constant _ _ _ => true
  | _ => false
theorem plain_test {e : Expr} (env : Env) (h : plainTest e = true) : ∀ whole, isTrue e env whole = (do let v ← whole; standAt e.pos; holding [v] (truthy v)) := by
  intro whole
  cases e <;> first | rfl | cases h
def notComp : Expr → Bool
  | .ListComp _ _ _ _ => false
  | .SetComp _ _ _ _ => false
  | .DictComp _ _ _ _ _ => false
  | _ => true
theorem no_swap {e : Expr} (t : Option Expr) (l : Nat) (env : Env) (h : notComp e = true) : swapsWith e t l env = pure false := by
  cases e <;> first | rfl | cases h
theorem no_swap_sole {e : Expr} (t : List Expr) (l : Nat) (env : Env) (h : notComp e = true) : swapsWithSole t e l env = pure false := by
  cases t with
  | nil => rfl
  | cons a r =>
    cases r with
    | nil => exact no_swap _ _ _ h
    | cons b r => rfl
def notTup : Expr → Bool
  | .Tuple _ _ _ => false
  | _ => true
theorem no_par {e : Expr} (ts : List Expr) (env : Env) (h : notTup e = true) : swappedStores ts e env = pure none := by
  unfold swappedStores
  cases e with
  | Tuple _ _ _ => cases h
  | _ =>
    rcases ts with _ | ⟨t, _ | ⟨t2, r⟩⟩
    · rfl
    · cases t <;> rfl
    · cases t <;> rfl
theorem no_par_sub {a b : Expr} {p : Pos} (e : Expr) (env : Env) : swappedStores [.Subscript a b p] e env = pure none := by
  unfold swappedStores
  cases e <;> rfl
/-- a target that is no local name stands among them -/
def notLoc (sc : Scope) : Expr → Bool
  | .Name x _ => decide (sc.names.lookup x ≠ some .local)
  | _ => true
def locNm (env : Env) (line : Nat) : Expr → Option Str
  | .Name id pos => if env.kindOf id == some .local && pos.line == line then some id else none
  | _ => none
theorem locNm_short (env : Env) (line : Nat) : ∀ ts : List Expr, ts.any (notLoc env.scope) = true → (ts.filterMap (locNm env line)).length < ts.length
  | [], h => by cases h
  | t :: ts, h => by
    have le : (ts.filterMap (locNm env line)).length ≤ ts.length := List.length_filterMap_le _ _
    by_cases ht : notLoc env.scope t = true
    · have : locNm env line t = none := by
        cases t with
        | Name x p =>
          have hx : env.scope.names.lookup x ≠ some .local := of_decide_eq_true ht
          have e : (env.kindOf x == some .local) = false := by
            unfold Env.kindOf
            exact beq_eq_false_iff_ne.mpr hx
          show (if (env.kindOf x == some .local && p.line == line) = true then some x else none) = none
          rw [e]
          rfl
        | _ => rfl
      rw [List.filterMap_cons_none this]
      simp only [List.length_cons]
      omega
    · have h2 : ts.any (notLoc env.scope) = true := by
        simp only [List.any_cons, Bool.or_eq_true] at h
        exact h.resolve_left ht
      have := locNm_short env line ts h2
      cases q : locNm env line t with
      | none => rw [List.filterMap_cons_none q]; simp only [List.length_cons]; omega
      | some b => rw [List.filterMap_cons_some q]; simp only [List.length_cons]; omega
theorem locNm_eq (env : Env) (line : Nat) : (fun (e : Expr) => (match e with
      | .Name id pos => if env.kindOf id == some .local && pos.line == line then some id else none
      | _ => none : Option Str)) = locNm env line := by
  funext t
  cases t <;> rfl
theorem no_par_loc {ts vs : List Expr} {k k2 : Nat} {p p2 : Pos} {env : Env} {sc : Scope} (hs : env.scope = sc) (h : ts.any (notLoc sc) = true) : swappedStores [.Tuple ts k p] (.Tuple vs k2 p2) env = pure none := by
  subst hs
  unfold swappedStores
  simp only
  split
  · rfl
  · split
    · rfl
    · rw [if_pos]
      have := locNm_short env ((ts.head?.map (·.pos.line)).getD 0) ts h
      simp only [Bool.or_eq_true, bne_iff_ne, ne_eq]
      refine .inl (Nat.ne_of_lt ?_)
      exact this
/-- two local names on one line, both sides written, not of constants alone -/
def parOk (sc : Scope) (x y : Str) (px py : Pos) (a b : Expr) : Bool :=
  decide (sc.names.lookup x = some .local) && decide (sc.names.lookup y = some .local) && decide (x ≠ y) && (px.line == py.line) && notStar a && notStar b && !([a, b].all (foldedForSure 8)) && !([a, b].all (constantsAlone 8))
theorem par_ok {sc : Scope} {x y : Str} {px py : Pos} {a b : Expr} {k k2 : Nat} {p p2 : Pos} {env : Env} (hs : env.scope = sc) (hk : env.scope.kind = .function) (h : parOk sc x y px py a b = true) :
    swappedStores [.Tuple [.Name x px, .Name y py] k p] (.Tuple [a, b] k2 p2) env = pure (some [x, y]) := by
  subst hs
  unfold parOk at h
  simp only [Bool.and_eq_true, decide_eq_true_eq, Bool.not_eq_true', beq_iff_eq] at h
  obtain ⟨⟨⟨⟨⟨⟨⟨h1, h2⟩, h3⟩, h4⟩, h5⟩, h6⟩, h7⟩, h8⟩ := h
  have kx : env.kindOf x = some .local := h1
  have ky : env.kindOf y = some .local := h2
  have bk : env.blockKind = .function := by unfold Env.blockKind; rw [hk]; rfl
  unfold swappedStores
  have f8 : (foldedForSure 8 a && foldedForSure 8 b) = false := by simpa using h7
  have c8 : (constantsAlone 8 a && constantsAlone 8 b) = false := by simpa using h8
  have ne : (y == x) = false := beq_eq_false_iff_ne.mpr fun z => h3 z.symm
  simp [bk, kx, ky, h4, f8, c8, ne, List.eraseDups_cons]
  have nm : ∀ f : Expr → Option Str, f (.Name x px) = some x → f (.Name y py) = some y → List.filterMap f [.Name x px, .Name y py] = [x, y] := fun f h1 h2 => by simp [h1, h2]
  rw [if_neg (by
    rintro (h | h)
    · cases a <;> first | exact absurd h Bool.false_ne_true | cases h5
    · cases b <;> first | exact absurd h Bool.false_ne_true | cases h6)]
  rw [nm _ (by show (if env.kindOf x = some .local ∧ px.line = px.line then some x else none) = some x; simp [kx]) (by show (if env.kindOf y = some .local ∧ py.line = px.line then some y else none) = some y; simp [ky, h4])]
  simp [List.eraseDups_cons, ne]
end VI

set_option Elab.async false
set_option linter.all false
set_option maxRecDepth 100000
set_option maxHeartbeats 4000000
/-! VS: enumerate of tuples (the machine's side) -/
namespace VI
open PySem PySem.Spec L2
open PyProof.Rows hiding St
theorem meets_enum1 {v : Value} {o : Obj} {H : Heap → Prop} (B : Begins v o H) :
    Meets (Builtin.«enumerate.__new__» ⟨[.type "enumerate", v], []⟩) (fun _ R s => H s.heap ∧
      R (.ok (.ret (.ref (s.heap.push o).objs.size))) { s with heap := (s.heap.push o).push { cls := .type "enumerate", data := .fields #[.none, .bool false, .ref s.heap.objs.size, rawInt 0, .none, .none] } }) :=
  .of_wp fun prog w A R s h => by
    obtain ⟨hp, g, d, tk, os⟩ := s; obtain ⟨h1, h⟩ := h
    have hsub := sub_enumerate
    have q1 : ∀ {A' : Around} {E : Value → Shared → Prop} {Q : Value → Shared → Prop}, Q (.ref hp.objs.size) ⟨hp.push o, g, d, tk, os⟩ → wpAny (model prog w) A' (pyIter v) Q E ⟨hp, g, d, tk, os⟩ :=
      fun q => B.iter prog w _ _ ⟨hp, g, d, tk, os⟩ _ h1 q
    wp_walk using q1
    refine wpAny_stack_any fun st => wpAny_pure ?_
    split
    · rename_i c _ _ _ _ _
      cases (c == Value.type "enumerate")
      · wp_walk using q1
        exact ⟨_, rfl, h⟩
      · wp_walk using q1
        exact ⟨_, rfl, h⟩
    · wp_walk using q1
      exact ⟨_, rfl, h⟩
section
variable {prog : Program} {w : World} {A : Around} {E : Value → Shared → Prop} {s : Shared}
theorem enum1 {v : Value} {o : Obj} {H : Heap → Prop} {Q : Value → Shared → Prop} (B : Begins v o H) (h1 : H s.heap)
    (h : ∀ h', IsEnum h' (s.heap.objs.size + 1) s.heap.objs.size 0 .none → h'.get? s.heap.objs.size = some o → h'.objs.size = s.heap.objs.size + 2 →
      (∀ b o, s.heap.get? b = some o → h'.get? b = some o) → Q (.ref (s.heap.objs.size + 1)) { s with heap := h' }) :
    wpAny (model prog w) A (call (.type "enumerate") [v]) Q E s := by
  refine callType_new F.called_enumerate (by decide) (F.typeCall_enumerate_1 _) (F.newCall_enumerate_1 _) (fun obj => F.args_object_init_2 obj _) F.entry_enumerate_new
    (meets_enum1 B) ⟨h1, ?_⟩
  have hz : (s.heap.push o).objs.size = s.heap.objs.size + 1 := Heap.size_push ..
  show _ ∧ _
  rw [hz]
  have he : IsEnum ((s.heap.push o).push { cls := .type "enumerate", data := .fields #[.none, .bool false, .ref s.heap.objs.size, rawInt 0, .none, .none] }) (s.heap.objs.size + 1) s.heap.objs.size 0 .none := by
    have := Heap.get?_push_size (s.heap.push o) (o := { cls := .type "enumerate", data := .fields #[.none, .bool false, .ref s.heap.objs.size, rawInt 0, .none, .none] }) rfl
    rw [hz] at this; exact this
  refine ⟨⟨_, he, rfl⟩, h _ he (Heap.get?_push_of_some _ (Heap.get?_push_size _ B.free)) (by rw [Heap.size_push, hz]) fun b o x => Heap.get?_push_of_some _ (Heap.get?_push_of_some _ x)⟩
end
/-- the tuple at a, each item in a new pair -/
def IteT (K : PySem.W.Frag) (a : Addr) : It :=
  ⟨fun i H => ∃ (xs : List V) (x : V), SqT K H a xs ∧ xs[i]? = some x, fun i H v H' => ∃ T x, v = .ref T ∧ H T = none ∧ H' = upd H T (.tup [.int (i : Nat), x]) ∧ ∀ xs, SqT K H a xs → xs[i]? = some x, fun i H => ∃ xs : List V, SqT K H a xs ∧ xs.length ≤ i⟩
theorem turn_enumT {P : Program} {w : World} {K : PySem.W.Frag} {elts : List Expr} {kk : Nat} {tpos : Pos} (a e it : Addr) (hai : a ≠ it) (hae : a ≠ e) :
    Turn P w K (.Tuple elts kk tpos) (IteT K a) [e, it] e (fun i h => (∃ old, IsEnum h e it ((i : Nat) : Int) old) ∧ h.IsTupleIter it a i ∧ e ≠ it) where
  mem := by simp
  obj := fun i h st b hb => by
    obtain ⟨⟨old, he⟩, ⟨o, ho, hc, hd⟩, _⟩ := st
    have e' : b = e ∨ b = it := by simpa using hb
    rcases e' with z | z
    · rw [z]; exact ⟨_, he, fun v q => nomatch q⟩
    · rw [z]; exact ⟨o, ho, fun v q => by rw [hd] at q; cases q⟩
  keep := fun i h h' st k => let ⟨⟨old, he⟩, hi, hne⟩ := st; ⟨⟨old, k e (by simp) _ he⟩, hi.at fun o q => k it (by simp) o q, hne⟩
  item := by
    intro X hP hw hK hc i pins s σ H E I hf st hg
    subst hP hw hK
    obtain ⟨⟨old, he⟩, hit, hne⟩ := st
    obtain ⟨xs, x, hq, hx⟩ := hg
    obtain ⟨its, rv, p, hz⟩ := I.tuple hq
    obtain ⟨u, hu, ru⟩ := rv.get hx
    have hel : e < s.heap.objs.size := Heap.lt_size he
    have hil : it < s.heap.objs.size := by obtain ⟨_, q, _⟩ := hit; exact Heap.lt_size q
    have hh : X.A.in1.handled = none := I.ok.hd hc
    have pT : s.heap.IsTuple a its.toArray := p
    have hlt : i < its.toArray.size := by
      have := (List.getElem?_eq_some_iff.mp hu).1
      simpa using this
    refine wpAny_pyNext_enum_itemD (Draws.tuple hh it a hai its.toArray) he ⟨hit, pT⟩ hlt hne (by simp [hne, Ne.symm hae]) fun y h' tk hy ho hs' hT hsz hk => ?_
    obtain ⟨hit', pT'⟩ := hs'
    have hyu : y = u := by
      have : its.toArray[i]? = some u := by simpa using hu
      rw [this] at hy; exact (Option.some.inj hy).symm
    subst hyu
    refine ⟨_, rfl, wpAny_letOwnedTupleGo_enum (s := { s with heap := h', toks := tk + 1 }) ho fun h'' he' sb => ?_⟩
    have hT2 : h''.get? s.heap.objs.size = some { cls := .type "tuple", data := .seq #[.int i tk, y] } := (sb.2 _ (Nat.ne_of_gt hel)).trans hT
    have new : ObjOk X.prog X.w (upd H s.heap.objs.size (.tup [.int (i : Nat), x])) h'' s.heap.objs.size (.tup [.int (i : Nat), x]) :=
      ⟨by show 2 ≤ sizeLine; decide, [.int i tk, y], .cons ⟨_, rfl⟩ (.cons ru .nil), ⟨_, hT2, rfl, _, rfl⟩⟩
    have I1 : Inv X pins σ (upd H s.heap.objs.size (.tup [.int (i : Nat), x])) { s with heap := h'', toks := tk + 1 } :=
      I.turnedNew (ch := [e, it]) (fun b ob hb q => (sb.2 b (fun z => hb (by simp [z]))).trans (hk b ob (fun z => hb (by simp [z])) (fun z => hb (by simp [z])) q)) hf (Nat.le_refl _) new
    refine ⟨.ref s.heap.objs.size, _, I1, rfl, ⟨_, x, rfl, I.hok.fresh (Nat.le_refl _), rfl, fun ys hy => by rw [I.tuple_inj hy hq]; exact hx⟩, ⟨⟨y, ?_⟩, hit'.at fun o q => (sb.2 it (Ne.symm hne)).trans q, hne⟩, fun b hb => ?_⟩
    · have e1 : ((i + 1 : Nat) : Int) = (i : Int) + 1 := by omega
      rw [e1]; exact he'
    · have hb' : b < s.heap.objs.size := by
        have e' : b = e ∨ b = it := by simpa using hb
        rcases e' with z | z
        · rw [z]; exact hel
        · rw [z]; exact hil
      rw [upd_ne (Nat.ne_of_lt hb')]
      exact (hf b hb).1
  done := by
    intro X hP hw hK hc i pins s σ H E I hf st hg
    subst hP hw hK
    obtain ⟨⟨old, he⟩, hit, hne⟩ := st
    obtain ⟨xs, hq, hx⟩ := hg
    obtain ⟨its, rv, p, hz⟩ := I.tuple hq
    obtain ⟨f0, f1, f2, f3, f4, f5⟩ := hf it (by simp)
    have hl := rv.length
    have hh : X.A.in1.handled = none := I.ok.hd hc
    have pT : s.heap.IsTuple a its.toArray := p
    -- the end by the tuple's own end
    have hT : s.TypeIs (.ref e) "enumerate" := ⟨_, he, rfl⟩
    unfold pyNext
    refine wpAny_bind (wpAny_attempt (wpAny_callSpecial?_slot (name := Str.ofString "__next__") hT F.slot_enumerate_next
      (wpAny_call_entry F.slot_enumerate_next hT F.entry_enumerate_next ?_ (F.args_enumerate_next_1 _))))
    show wpAny _ _ (field (.ref e) 2 >>= _) _ _ _
    refine wpAny_bind (wpAny_field he rfl (x := .ref it) rfl ?_)
    refine wpAny_bind (wpAny_nextOf_tuple_end hh hit pT (by simp; omega) fun h' x he' hx' => ?_)
    obtain ⟨o, ho, hc⟩ := hx'
    refine wpAny_bind (wpAny_isInstance (T := "StopIteration") (b := true) ⟨o, ho, hc⟩ isSubtype_stop ?_)
    exact wpAny_pure ⟨rfl, I.turned (t' := s.toks) (fun b o hb q => he' b o hb q) f0 f1 f3 f4 f5⟩
  self := fun A i s Q E st h => let ⟨⟨_, he⟩, _⟩ := st; wpAny_pyIter_enum he h
def iEnumA (K : PySem.W.Frag) (ta : TA) : TI := fun σ H R => ta σ H fun vs H1 => ∃ a xs, vs = [.ref a] ∧ ((SqL K H1 a xs ∧ R (Ite K a) H1) ∨ (SqT K H1 a xs ∧ R (IteT K a) H1))
theorem pi_enumA {X : Cx} {e : Expr} {ta : TA} {p pos tpos : Pos} {elts : List Expr} {kk : Nat} (hg : Gl X "enumerate") (hm : X.mg "enumerate" = none) (ha : PA X [e] ta) (hs : starEach [e] X.env = [(false, eval e X.env)] := by rfl) :
    PI X (.Tuple elts kk tpos) (.Call (.Name "enumerate" p) [e] [] pos) (iEnumA X.K ta) := by
  refine ⟨fun pins s σ H R I h => ?_⟩
  refine Call_ (ld_blt I hg hm boot_enumerate (PyProof.Rows.callWith_type1 (thn (ha.run pos pins s σ H _ I h) fun us s1 ⟨vs, H1, I1, r1, q1⟩ => ?_) hs rfl))
  obtain ⟨a, xs, ex, q1⟩ := q1
  subst ex
  cases r1 with
  | cons r rr =>
    cases rr
    cases r
    have fp : ∀ b ∈ [s1.heap.objs.size + 1, s1.heap.objs.size], FpOk X pins H1 b := fun b hb => by
      have e' : b = s1.heap.objs.size + 1 ∨ b = s1.heap.objs.size := by simpa using hb
      have hle : s1.heap.objs.size ≤ b := by
        rcases e' with z | z
        · rw [z]; exact Nat.le_add_right _ _
        · rw [z]; exact Nat.le_refl _
      exact I1.fpOk hle (I1.hok.fresh hle)
    rcases q1 with ⟨hq, q⟩ | ⟨hq, q⟩
    · obtain ⟨its, rv, p', hz⟩ := I1.list hq
      refine call_enumerate_list p'.isList fun h' he hit hsz hk => wpAny_pyIter_enum he ?_
      have I2 : Inv X pins σ H1 { s1 with heap := h' } := I1.kept (t' := s1.toks) hk
      exact ⟨s1.heap.objs.size + 1, [s1.heap.objs.size + 1, s1.heap.objs.size], _, _, H1, rfl, I2, turn_enum a (s1.heap.objs.size + 1) s1.heap.objs.size, ⟨⟨.none, he⟩, hit, Nat.succ_ne_self _⟩, fp, q⟩
    · obtain ⟨its, rv, p', hz⟩ := I1.tuple hq
      have pT : s1.heap.IsTuple a its.toArray := p'
      obtain ⟨oa, hoa, _⟩ := id p'
      have hlt : a < s1.heap.objs.size := Heap.lt_size hoa
      refine enum1 (begins_tuple a its.toArray) pT fun h' he hit hsz hk => wpAny_pyIter_enum he ?_
      have I2 : Inv X pins σ H1 { s1 with heap := h' } := I1.kept (t' := s1.toks) hk
      exact ⟨s1.heap.objs.size + 1, [s1.heap.objs.size + 1, s1.heap.objs.size], _, _, H1, rfl, I2, turn_enumT a (s1.heap.objs.size + 1) s1.heap.objs.size (Nat.ne_of_lt hlt) (Nat.ne_of_lt (Nat.lt_succ_of_lt hlt)), ⟨⟨.none, he⟩, ⟨_, hit, rfl, rfl⟩, Nat.succ_ne_self _⟩, fp, q⟩
end VI

set_option Elab.async false
set_option linter.all false
set_option maxRecDepth 100000
set_option maxHeartbeats 4000000
/-! VS2: zip of lists and tuples, mixed (the machine's side) -/
namespace VI
open PySem PySem.Spec L2
open PyProof.Rows hiding St
/-- a list (true) or a tuple at a -/
def Sq (K : PySem.W.Frag) (b : Bool) (H : Hp) (a : Addr) (xs : List V) : Prop := if b = true then SqL K H a xs else SqT K H a xs
def IsSq (b : Bool) (h : Heap) (a : Addr) (its : Array Value) : Prop := if b = true then h.IsList a its else h.IsTuple a its
def IsIt (b : Bool) (h : Heap) (it a : Addr) (i : Nat) : Prop := if b = true then h.IsListIter it a i else h.IsTupleIter it a i
def itO (b : Bool) (a : Addr) : Obj := if b = true then { cls := .type "list_iterator", data := .fields #[.ref a, .int 0 0] } else { cls := .type "tuple_iterator", data := .fields #[.ref a, .int 0 0] }
theorem IsIt.at' {b : Bool} {h h' : Heap} {it a : Addr} {i : Nat} (x : IsIt b h it a i) (k : ∀ o, h.get? it = some o → h'.get? it = some o) : IsIt b h' it a i := by
  cases b with
  | true => exact Heap.IsListIter.at x k
  | false => exact Heap.IsTupleIter.at x k
theorem IsIt.obj {b : Bool} {h : Heap} {it a : Addr} {i : Nat} (x : IsIt b h it a i) : ∃ o fs, h.get? it = some o ∧ o.data = .fields fs := by
  cases b with
  | true => obtain ⟨o, e, _, d⟩ := x; exact ⟨o, _, e, d⟩
  | false => obtain ⟨o, e, _, d⟩ := x; exact ⟨o, _, e, d⟩
theorem IsIt.new {b : Bool} {h : Heap} {it a : Addr} (e : h.get? it = some (itO b a)) : IsIt b h it a 0 := by
  cases b with
  | true => exact ⟨_, e, rfl, rfl⟩
  | false => exact ⟨_, e, rfl, rfl⟩
theorem sq_begins (b : Bool) (a : Addr) (its : Array Value) : Begins (.ref a) (itO b a) fun h => IsSq b h a its := by
  cases b with
  | true => exact begins_list a its
  | false => exact begins_tuple a its
theorem sq_draws {prog : Program} {w : World} {A : Around} (b : Bool) (hh : A.handled = none) (it l : Addr) (hne : l ≠ it) (its : Array Value) :
    Draws prog w A it [it, l] its.size (fun i v => its[i]? = some v) (fun i h => IsIt b h it l i ∧ IsSq b h l its) := by
  cases b with
  | true => exact Draws.list hh it l hne its
  | false => exact Draws.tuple hh it l hne its
theorem Inv.sq {X : Cx} {pins : List (Addr × Obj)} {σ : St} {H : Hp} {s : Shared} {b : Bool} {a : Addr} {xs : List V} (I : Inv X pins σ H s) (h : Sq X.K b H a xs) : ∃ its : List Value, Vals xs its ∧ IsSq b s.heap a its.toArray ∧ a < s.heap.objs.size := by
  cases b with
  | true =>
    obtain ⟨its, rv, p, _⟩ := I.list h
    exact ⟨its, rv, p.isList, p.lt⟩
  | false =>
    obtain ⟨its, rv, p, _⟩ := I.tuple h
    obtain ⟨o, ho, _⟩ := id p
    exact ⟨its, rv, p, Heap.lt_size ho⟩
theorem Inv.sq_inj {X : Cx} {pins : List (Addr × Obj)} {σ : St} {H : Hp} {s : Shared} {b : Bool} {a : Addr} {xs ys : List V} (I : Inv X pins σ H s) (h : Sq X.K b H a xs) (k : Sq X.K b H a ys) : xs = ys := by
  cases b with
  | true => exact I.list_inj h k
  | false => exact I.tuple_inj h k
def ItzM (K : PySem.W.Frag) (b1 b2 : Bool) (a b : Addr) : It :=
  ⟨fun i H => ∃ (xs ys : List V) (x y : V), Sq K b1 H a xs ∧ Sq K b2 H b ys ∧ xs[i]? = some x ∧ ys[i]? = some y,
    fun i H v H' => ∃ T x y, v = .ref T ∧ H T = none ∧ H' = upd H T (.tup [x, y]) ∧ (∀ xs, Sq K b1 H a xs → xs[i]? = some x) ∧ ∀ ys, Sq K b2 H b ys → ys[i]? = some y,
    fun i H => ∃ xs ys : List V, Sq K b1 H a xs ∧ Sq K b2 H b ys ∧ i ≤ xs.length ∧ i ≤ ys.length ∧ (i = xs.length ∨ i = ys.length)⟩
structure ZApart (z TI TO i1 i2 a b : Addr) : Prop where
  S : ZipSep2 z TI TO i1 i2 [i1, a] [i2, b]
  a1 : a ≠ i1
  b2 : b ≠ i2
theorem turn_zipM {P : Program} {w : World} {K : PySem.W.Frag} {elts : List Expr} {kk : Nat} {tpos : Pos} (b1 b2 : Bool) {a b z TI TO i1 i2 : Addr} (D : ZApart z TI TO i1 i2 a b) :
    Turn P w K (.Tuple elts kk tpos) (ItzM K b1 b2 a b) [z, TI, TO, i1, i2] z (fun i h => IsZip h z TI TO .none ∧ IsTupOf2 h TI (.ref i1) (.ref i2) ∧ (∃ x y, IsTupOf2 h TO x y) ∧ IsIt b1 h i1 a i ∧ IsIt b2 h i2 b i) where
  mem := by simp
  obj := fun i h st c hc => by
    obtain ⟨hz, hTI, ⟨x, y, hTO⟩, h1, h2⟩ := st
    obtain ⟨o1, f1, e1, d1⟩ := h1.obj
    obtain ⟨o2, f2, e2, d2⟩ := h2.obj
    have e' : c = z ∨ c = TI ∨ c = TO ∨ c = i1 ∨ c = i2 := by simpa using hc
    rcases e' with q | q | q | q | q
    · rw [q]; exact ⟨_, hz, fun v q => nomatch q⟩
    · rw [q]; exact ⟨_, hTI, fun v q => nomatch q⟩
    · rw [q]; exact ⟨_, hTO, fun v q => nomatch q⟩
    · rw [q]; exact ⟨o1, e1, fun v q => by rw [d1] at q; cases q⟩
    · rw [q]; exact ⟨o2, e2, fun v q => by rw [d2] at q; cases q⟩
  keep := fun i h h' st k => by
    obtain ⟨hz, hTI, ⟨x, y, hTO⟩, h1, h2⟩ := st
    exact ⟨k z (by simp) _ hz, k TI (by simp) _ hTI, ⟨x, y, k TO (by simp) _ hTO⟩, h1.at' fun o q => k i1 (by simp) o q, h2.at' fun o q => k i2 (by simp) o q⟩
  item := by
    intro X hP hw hK hc i pins s σ H E I hf st hg
    subst hP hw hK
    obtain ⟨hz, hTI, ⟨x0, y0, hTO⟩, h1, h2⟩ := st
    obtain ⟨xs, ys, x, y, hqx, hqy, hx, hy⟩ := hg
    obtain ⟨its, rv, p, _⟩ := Inv.sq I hqx
    obtain ⟨its2, rv2, p2, _⟩ := Inv.sq I hqy
    obtain ⟨u, hu, ru⟩ := rv.get hx
    obtain ⟨u2, hu2, ru2⟩ := rv2.get hy
    have hzl : z < s.heap.objs.size := Heap.lt_size hz
    have hh : X.A.in1.handled = none := I.ok.hd hc
    have l1 : i < its.toArray.size := by have := (List.getElem?_eq_some_iff.mp hu).1; simpa using this
    have l2 : i < its2.toArray.size := by have := (List.getElem?_eq_some_iff.mp hu2).1; simpa using this
    refine wpAny_pyNext_zipD2_item D.S (sq_draws b1 hh i1 a D.a1 its.toArray) (sq_draws b2 hh i2 b D.b2 its2.toArray) hz hTI hTO ⟨h1, p⟩ ⟨h2, p2⟩ l1 l2 fun x1 x2 h' tk e1 e2 z' TO' q1 q2 hT hsz hk => ?_
    obtain rfl : x1 = u := by
      have : its.toArray[i]? = some u := by simpa using hu
      rw [this] at e1; exact (Option.some.inj e1).symm
    obtain rfl : x2 = u2 := by
      have : its2.toArray[i]? = some u2 := by simpa using hu2
      rw [this] at e2; exact (Option.some.inj e2).symm
    refine ⟨_, rfl, wpAny_letOwnedTupleGo_zip (s := { s with heap := h', toks := tk }) z' fun h'' z'' sb => ?_⟩
    have hT2 : h''.get? s.heap.objs.size = some { cls := .type "tuple", data := .seq #[x1, x2] } := (sb.2 _ (Nat.ne_of_gt hzl)).trans hT
    have new : ObjOk X.prog X.w (upd H s.heap.objs.size (.tup [x, y])) h'' s.heap.objs.size (.tup [x, y]) :=
      ⟨by show 2 ≤ sizeLine; decide, [x1, x2], .cons ru (.cons ru2 .nil), ⟨_, hT2, rfl, _, rfl⟩⟩
    have I1 : Inv X pins σ (upd H s.heap.objs.size (.tup [x, y])) { s with heap := h'', toks := tk } :=
      I.turnedNew (t' := tk) (ch := [z, TI, TO, i1, i2]) (fun c o hb q => (sb.2 c (fun q' => hb (by simp [q']))).trans (hk c o (fun q' => hb (by simp [q'])) (fun q' => hb (by simp [q'])) (fun q' => hb (by simp [q'])) (fun q' => hb (by simp [q'])) q)) hf (Nat.le_refl _) new
    refine ⟨.ref s.heap.objs.size, _, I1, rfl, ⟨_, x, y, rfl, I.hok.fresh (Nat.le_refl _), rfl, fun l hl => by rw [Inv.sq_inj I hl hqx]; exact hx, fun l hl => by rw [Inv.sq_inj I hl hqy]; exact hy⟩, ⟨z'', ?_, ⟨x1, x2, ?_⟩, ?_, ?_⟩, fun c hcm => ?_⟩
    · exact (sb.2 _ D.S.TIz).trans (hk _ _ D.S.TIz D.S.TITO D.S.TIi1 D.S.TIi2 hTI)
    · exact (sb.2 _ D.S.TOz).trans TO'
    · exact q1.1.at' fun o q => (sb.2 _ (Ne.symm D.S.zi1)).trans q
    · exact q2.1.at' fun o q => (sb.2 _ (Ne.symm D.S.zi2)).trans q
    · have hlt : c < s.heap.objs.size := by
        have e' : c = z ∨ c = TI ∨ c = TO ∨ c = i1 ∨ c = i2 := by simpa using hcm
        rcases e' with q | q | q | q | q
        · rw [q]; exact hzl
        · rw [q]; exact Heap.lt_size hTI
        · rw [q]; exact Heap.lt_size hTO
        · rw [q]; obtain ⟨_, _, e1, _⟩ := h1.obj; exact Heap.lt_size e1
        · rw [q]; obtain ⟨_, _, e2, _⟩ := h2.obj; exact Heap.lt_size e2
      rw [upd_ne (Nat.ne_of_lt hlt)]
      exact (hf c hcm).1
  done := by
    intro X hP hw hK hc i pins s σ H E I hf st hg
    subst hP hw hK
    obtain ⟨hz, hTI, ⟨x0, y0, hTO⟩, h1, h2⟩ := st
    obtain ⟨xs, ys, hqx, hqy, g1, g2, hend⟩ := hg
    obtain ⟨its, rv, p, _⟩ := Inv.sq I hqx
    obtain ⟨its2, rv2, p2, _⟩ := Inv.sq I hqy
    have l1 := rv.length
    have l2 := rv2.length
    have hh : X.A.in1.handled = none := I.ok.hd hc
    exact wpAny_pyNext_zipD2_end D.S (sq_draws b1 hh i1 a D.a1 its.toArray) (sq_draws b2 hh i2 b D.b2 its2.toArray) hz hTI hTO ⟨h1, p⟩ ⟨h2, p2⟩ (by simp; omega) (by simp; omega) (by simp; omega) fun h' tk hk => ⟨rfl, I.turnedL (t' := tk) (ch := [z, TI, TO, i1, i2]) (fun c o hb q =>
      hk c o (fun q' => hb (by simp [q'])) (fun q' => hb (by simp [q'])) (fun q' => hb (by simp [q'])) (fun q' => hb (by simp [q'])) q) hf⟩
  self := fun A i s Q E st h => wpAny_pyIter_zip st.1 h
def iZipM (K : PySem.W.Frag) (ta : TA) : TI := fun σ H R => ta σ H fun vs H1 => ∃ a b xs ys b1 b2, vs = [.ref a, .ref b] ∧ Sq K b1 H1 a xs ∧ Sq K b2 H1 b ys ∧ R (ItzM K b1 b2 a b) H1
theorem pi_zipM {X : Cx} {e e2 : Expr} {ta : TA} {p pos tpos : Pos} {elts : List Expr} {kk : Nat} (hg : Gl X "zip") (hm : X.mg "zip" = none) (ha : PA X [e, e2] ta)
    (hs : starEach [e, e2] X.env = (false, eval e X.env) :: starEach [e2] X.env := by rfl) (hpl : (backTo pos (starEach [e2] X.env)).any (·.1) = false := by rfl) :
    PI X (.Tuple elts kk tpos) (.Call (.Name "zip" p) [e, e2] [] pos) (iZipM X.K ta) := by
  refine ⟨fun pins s σ H R I h => ?_⟩
  refine Call_ (ld_blt I hg hm PyProof.Rows.boot_zip (PyProof.Rows.callWith_type1 (thn (ha.run pos pins s σ H _ I h) fun us s1 ⟨vs, H1, I1, r1, q1⟩ => ?_) hs hpl))
  obtain ⟨a, b, xs, ys, b1, b2, ex, hqx, hqy, q⟩ := q1
  subst ex
  cases r1 with
  | cons r rr =>
    cases rr with
    | cons r' rr =>
      cases rr
      cases r
      cases r'
      have fresh5 : ∀ c, c ∈ [s1.heap.objs.size + 4, s1.heap.objs.size + 2, s1.heap.objs.size + 3, s1.heap.objs.size, s1.heap.objs.size + 1] → FpOk X pins H1 c := fun c hcm => by
        have e' : c = s1.heap.objs.size + 4 ∨ c = s1.heap.objs.size + 2 ∨ c = s1.heap.objs.size + 3 ∨ c = s1.heap.objs.size ∨ c = s1.heap.objs.size + 1 := by simpa using hcm
        have hle : s1.heap.objs.size ≤ c := by
          rcases e' with z | z | z | z | z
          · rw [z]; exact Nat.le_add_right _ _
          · rw [z]; exact Nat.le_add_right _ _
          · rw [z]; exact Nat.le_add_right _ _
          · rw [z]; exact Nat.le_refl _
          · rw [z]; exact Nat.le_add_right _ _
        exact I1.fpOk hle (I1.hok.fresh hle)
      obtain ⟨its, rv, p1, la⟩ := Inv.sq I1 hqx
      obtain ⟨its2, rv2, p2, lb⟩ := Inv.sq I1 hqy
      refine zip_begins2 (sq_begins b1 a its.toArray) (sq_begins b2 b its2.toArray) p1 p2 fun h' hz hTI hTO h1 h2 hsz hk => wpAny_pyIter_zip hz ?_
      have I2 : Inv X pins σ H1 { s1 with heap := h' } := I1.kept (t' := s1.toks) hk
      have la' : a < s1.heap.objs.size := la
      have lb' : b < s1.heap.objs.size := lb
      exact ⟨s1.heap.objs.size + 4, [s1.heap.objs.size + 4, s1.heap.objs.size + 2, s1.heap.objs.size + 3, s1.heap.objs.size, s1.heap.objs.size + 1], _, _, H1, rfl, I2, turn_zipM b1 b2 ⟨zip_sep2 (fp1 := [a]) (fp2 := [b]) (by simpa using la') (by simpa using lb'), Nat.ne_of_lt la, Nat.ne_of_lt (Nat.lt_succ_of_lt lb)⟩, ⟨hz, hTI, ⟨_, _, hTO⟩, .new h1, .new h2⟩, fresh5, q⟩
end VI

set_option Elab.async false
set_option linter.all false
set_option maxRecDepth 100000
set_option maxHeartbeats 4000000
/-! VU: enumerate, zip, reversed as what is walked -/
namespace VI
open PySem PySem.Spec L2
open PyProof.Rows hiding St
variable {X : Cx} {a b c e : Expr} {es : List Expr} {pos : Pos} {A : Nat → Bool}

def seqD : D → Option (List D)
  | .lst xs => some xs
  | .tup xs => some xs
  | .scr ns => some (ns.map D.int)
  | _ => none
theorem seq_rep {F : Hp} {d : D} {v : V} {ds : List D} (r : RepD (gx X) F d v) (h : seqD d = some ds) : ∃ (p : Addr) (us : List V) (k : Bool), v = .ref p ∧ RepDs (gx X) F ds us ∧ ∀ F1 H1, Le F F1 → Sub F1 H1 → Sq X.K k H1 p us := by
  cases d with
  | lst xs => cases h; obtain ⟨p, us, rfl, h1, r1⟩ := r; exact ⟨p, us, true, rfl, r1, fun F1 H1 l s => SqL.of (s.lst (l _ _ h1))⟩
  | tup xs => cases h; obtain ⟨p, us, o, rfl, h1, _, r1⟩ := r; exact ⟨p, us, false, rfl, r1, fun F1 H1 l s => s.rdT (l _ _ h1) _⟩
  | scr ns => cases h; obtain ⟨p, rfl, h1⟩ := r; exact ⟨p, _, true, rfl, RepDs.ints, fun F1 H1 l s => s.sqL (l.sqL h1)⟩
  | _ => cases h
theorem fresh_pair {F1 H1 : Hp} {T : Addr} {ds : List D} {us : List V} (s : Sub F1 H1) (hT : H1 T = none) (r : RepDs (gx X) F1 ds us) :
    ∃ F2, Le F1 F2 ∧ Sub F2 (upd H1 T (.tup us)) ∧ (∀ a u, H1 a = some u → (upd H1 T (.tup us)) a = some u) ∧ (∀ a, F2 a ≠ none → F1 a ≠ none ∨ H1 a = none) ∧ RepI (gx X) F2 (.tup ds) (.ref T) := by
  have hF : F1 T = none := s.no hT
  refine ⟨upd F1 T (.tup us), upd_le hF, (s.new hT).fz upd_same, fun a u h => upd_le hT a u h, fun a z => ?_, .inr ⟨ds, us, T, rfl, rfl, upd_same, RepDs.le (upd_le hF) r⟩⟩
  by_cases e : a = T
  · subst e; exact .inr hT
  · rw [upd_ne e] at z; exact .inl z
/-! ### enumerate -/
def enumL (ds : List D) : List D := ds.zipIdx.map fun p => .tup [.int (p.2 : Nat), p.1]
theorem enumL_get {ds : List D} {i : Nat} {d : D} (h : ds[i]? = some d) : (enumL ds)[i]? = some (.tup [.int (i : Nat), d]) := by
  unfold enumL
  rw [List.getElem?_map, List.getElem?_zipIdx, h]
  simp
theorem enumL_len {ds : List D} : (enumL ds).length = ds.length := by simp [enumL]
def dEnum (m : DenA) : DenI := fun ρ => (m ρ).bind fun p => match p.1 with
  | [d] => (seqD d).bind fun ds => some (enumL ds, p.2)
  | _ => none
theorem si_enum {m : DenA} {p tpos : Pos} {elts : List Expr} {kk : Nat} (hg : Gl X "enumerate") (hm : X.mg "enumerate" = none) (h : SA X [e] m) (hs : starEach [e] X.env = [(false, eval e X.env)]) :
    SI X RepI (.Tuple elts kk tpos) (.Call (.Name "enumerate" p) [e] [] pos) (dEnum m) := by
  obtain ⟨ta, pa, k⟩ := h
  refine ⟨_, pi_enumA hg hm pa hs, fun F H ρ σ ds ρ' Q R e q => ?_⟩
  obtain ⟨⟨ds1, ρ1⟩, e1, e⟩ := bind_some e
  obtain ⟨d, rfl, ds2, e2, e⟩ : ∃ d, ds1 = [d] ∧ ∃ ds2, seqD d = some ds2 ∧ some (enumL ds2, ρ1) = some (ds, ρ') := by
    match ds1, e with
    | [d], e => obtain ⟨ds2, e2, e⟩ := bind_some e; exact ⟨d, rfl, ds2, e2, e⟩
  cases e
  refine k F H ρ σ _ _ _ R e1 fun vs F' H' po => ?_
  obtain ⟨v, r0, rfl, rv, rfl⟩ := po.rep
  obtain ⟨p0, us, kb, rfl, rs, hq⟩ := seq_rep rv e2
  have hl := rs.length
  refine ⟨p0, us, rfl, ?_⟩
  cases kb with
  | true =>
    refine .inl ⟨hq F' H' (Le.refl _) po.rel.sub, q _ F' H' po.n ⟨fun i H1 F1 l s hi => ?_, fun i H1 F1 x H2 l s hi y => ?_, fun H1 F1 l s => ?_⟩⟩
    · rw [enumL_len] at hi
      obtain ⟨u, hu⟩ := getLt (l := us) (i := i) (by omega)
      exact ⟨us, u, hq F1 H1 l s, hu⟩
    · rw [enumL_len] at hi
      obtain ⟨T, u, rfl, hT, rfl, y⟩ := y
      obtain ⟨d1, hd1⟩ := getLt hi
      obtain ⟨u1, hu1, ru⟩ := rs.get hd1
      have hu := y us (hq F1 H1 l s)
      rw [hu] at hu1; cases hu1
      obtain ⟨F2, g1, g2, g3, g4, g5⟩ := fresh_pair (X := X) (ds := [.int (i : Nat), d1]) (us := [.int (i : Nat), u]) s hT ⟨_, _, rfl, rfl, _, _, rfl, RepD.le l ru, rfl⟩
      exact ⟨_, F2, enumL_get hd1, g1, g2, g3, g4, g5⟩
    · rw [enumL_len]
      exact ⟨us, hq F1 H1 l s, by omega⟩
  | false =>
    refine .inr ⟨hq F' H' (Le.refl _) po.rel.sub, q _ F' H' po.n ⟨fun i H1 F1 l s hi => ?_, fun i H1 F1 x H2 l s hi y => ?_, fun H1 F1 l s => ?_⟩⟩
    · rw [enumL_len] at hi
      obtain ⟨u, hu⟩ := getLt (l := us) (i := i) (by omega)
      exact ⟨us, u, hq F1 H1 l s, hu⟩
    · rw [enumL_len] at hi
      obtain ⟨T, u, rfl, hT, rfl, y⟩ := y
      obtain ⟨d1, hd1⟩ := getLt hi
      obtain ⟨u1, hu1, ru⟩ := rs.get hd1
      have hu := y us (hq F1 H1 l s)
      rw [hu] at hu1; cases hu1
      obtain ⟨F2, g1, g2, g3, g4, g5⟩ := fresh_pair (X := X) (ds := [.int (i : Nat), d1]) (us := [.int (i : Nat), u]) s hT ⟨_, _, rfl, rfl, _, _, rfl, RepD.le l ru, rfl⟩
      exact ⟨_, F2, enumL_get hd1, g1, g2, g3, g4, g5⟩
    · rw [enumL_len]
      exact ⟨us, hq F1 H1 l s, by omega⟩
/-! ### zip -/
def zipL : List D → List D → List D
  | x :: xs, y :: ys => .tup [x, y] :: zipL xs ys
  | _, _ => []
theorem zipL_get : ∀ {xs ys : List D} {i : Nat} {x y : D}, xs[i]? = some x → ys[i]? = some y → (zipL xs ys)[i]? = some (.tup [x, y])
  | x :: xs, y :: ys, 0, _, _, h, k => by cases h; cases k; rfl
  | x :: xs, y :: ys, i + 1, _, _, h, k => zipL_get (xs := xs) (ys := ys) (i := i) (by simpa using h) (by simpa using k)
  | [], _, _, _, _, h, _ => by simp at h
  | _ :: _, [], _, _, _, _, k => by simp at k
theorem zipL_len : ∀ {xs ys : List D}, (zipL xs ys).length = min xs.length ys.length
  | x :: xs, y :: ys => by simp [zipL, zipL_len (xs := xs) (ys := ys)]
  | [], _ => by simp [zipL]
  | _ :: _, [] => by simp [zipL]
def dZip (m : DenA) : DenI := fun ρ => (m ρ).bind fun p => match p.1 with
  | [d, f] => (seqD d).bind fun ds => (seqD f).bind fun fs => some (zipL ds fs, p.2)
  | _ => none
theorem si_zip {e2 : Expr} {m : DenA} {p tpos : Pos} {elts : List Expr} {kk : Nat} (hg : Gl X "zip") (hm : X.mg "zip" = none) (h : SA X [e, e2] m)
    (hs : starEach [e, e2] X.env = (false, eval e X.env) :: starEach [e2] X.env) (hpl : (backTo pos (starEach [e2] X.env)).any (·.1) = false) :
    SI X RepI (.Tuple elts kk tpos) (.Call (.Name "zip" p) [e, e2] [] pos) (dZip m) := by
  obtain ⟨ta, pa, k⟩ := h
  refine ⟨_, pi_zipM hg hm pa hs hpl, fun F H ρ σ ds ρ' Q R e q => ?_⟩
  obtain ⟨⟨ds1, ρ1⟩, e1, e⟩ := bind_some e
  obtain ⟨d, f, rfl, ds2, e2, fs2, e3, e⟩ : ∃ d f, ds1 = [d, f] ∧ ∃ ds2, seqD d = some ds2 ∧ ∃ fs2, seqD f = some fs2 ∧ some (zipL ds2 fs2, ρ1) = some (ds, ρ') := by
    match ds1, e with
    | [d, f], e => obtain ⟨ds2, e2, e⟩ := bind_some e; obtain ⟨fs2, e3, e⟩ := bind_some e; exact ⟨d, f, rfl, ds2, e2, fs2, e3, e⟩
  cases e
  refine k F H ρ σ _ _ _ R e1 fun vs F' H' po => ?_
  obtain ⟨v, r0, rfl, rv, v2, r2, rfl, rv2, rfl⟩ := po.rep
  obtain ⟨p0, us, kb, rfl, rs, hq⟩ := seq_rep rv e2
  obtain ⟨p1, ws, kb2, rfl, rs2, hq2⟩ := seq_rep rv2 e3
  have hl := rs.length
  have hl2 := rs2.length
  refine ⟨p0, p1, us, ws, kb, kb2, rfl, hq F' H' (Le.refl _) po.rel.sub, hq2 F' H' (Le.refl _) po.rel.sub, q _ F' H' po.n ⟨fun i H1 F1 l s hi => ?_, fun i H1 F1 x H2 l s hi y => ?_, fun H1 F1 l s => ?_⟩⟩
  · rw [zipL_len] at hi
    obtain ⟨u, hu⟩ := getLt (l := us) (i := i) (by omega)
    obtain ⟨u2, hu2⟩ := getLt (l := ws) (i := i) (by omega)
    exact ⟨us, ws, u, u2, hq F1 H1 l s, hq2 F1 H1 l s, hu, hu2⟩
  · rw [zipL_len] at hi
    obtain ⟨T, u, u2, rfl, hT, rfl, y, y2⟩ := y
    obtain ⟨d1, hd1⟩ := getLt (l := ds2) (i := i) (by omega)
    obtain ⟨d2, hd2⟩ := getLt (l := fs2) (i := i) (by omega)
    obtain ⟨u1, hu1, ru⟩ := rs.get hd1
    obtain ⟨u3, hu3, ru2⟩ := rs2.get hd2
    have hu := y us (hq F1 H1 l s)
    rw [hu] at hu1; cases hu1
    have hu := y2 ws (hq2 F1 H1 l s)
    rw [hu] at hu3; cases hu3
    obtain ⟨F2, g1, g2, g3, g4, g5⟩ := fresh_pair (X := X) (ds := [d1, d2]) (us := [u, u2]) s hT ⟨_, _, rfl, RepD.le l ru, _, _, rfl, RepD.le l ru2, rfl⟩
    exact ⟨_, F2, zipL_get hd1 hd2, g1, g2, g3, g4, g5⟩
  · rw [zipL_len]
    exact ⟨us, ws, hq F1 H1 l s, hq2 F1 H1 l s, by omega, by omega, by omega⟩
/-! ### reversed -/
def dRev (m : Den) : DenI := fun ρ => (dD m ρ).bind fun p => (seqD p.1).bind fun ds => some (ds.reverse, p.2)
theorem si_rev {tg : Expr} {m : Den} {p : Pos} (hg : Gl X "reversed") (hm : X.mg "reversed" = none) (h : SE X e m) (hs : starEach [e] X.env = (false, eval e X.env) :: starEach [] X.env) :
    SI X RepD tg (.Call (.Name "reversed" p) [e] [] pos) (dRev m) := by
  obtain ⟨te, pe, k⟩ := h.d
  refine ⟨_, RT.pi_revA hg hm pe hs, fun F H ρ σ ds ρ' Q R e q => ?_⟩
  obtain ⟨⟨d, ρ1⟩, e1, e⟩ := bind_some e
  obtain ⟨ds2, e2, e⟩ := bind_some e
  cases e
  refine k F H ρ σ _ ρ1 _ R e1 fun v F' H' po => ?_
  obtain ⟨p0, us, kb, rfl, rs, hq⟩ := seq_rep po.rep e2
  have hl := rs.length
  refine ⟨p0, us, rfl, ?_⟩
  have rev : ∀ {i : Nat} {d : D}, ds2[us.length - 1 - i]? = some d → i < ds2.length → (ds2.reverse)[i]? = some d := fun {i d} h hi => by
    rw [List.getElem?_reverse hi, hl]; exact h
  cases kb with
  | true =>
    refine .inl ⟨hq F' H' (Le.refl _) po.rel.sub, q _ F' H' po.n ⟨fun i H1 F1 l s hi => ?_, fun i H1 F1 x H2 l s hi y => ?_, fun H1 F1 l s => ?_⟩⟩
    · rw [List.length_reverse] at hi
      obtain ⟨u, hu⟩ := getLt (l := us) (i := us.length - 1 - i) (by omega)
      exact ⟨by omega, us, u, hq F1 H1 l s, hu⟩
    · rw [List.length_reverse] at hi
      obtain ⟨rfl, y⟩ := y
      obtain ⟨d1, hd1⟩ := getLt (l := ds2) (i := us.length - 1 - i) (by omega)
      obtain ⟨u1, hu1, ru⟩ := rs.get hd1
      have hu := y us (hq F1 H2 l s)
      rw [hu] at hu1; cases hu1
      exact ⟨d1, F1, rev hd1 hi, Le.refl _, s, fun _ _ h => h, fun _ h => .inl h, RepD.le l ru⟩
    · show us.length ≤ ds2.reverse.length
      rw [List.length_reverse]; omega
  | false =>
    refine .inr ⟨hq F' H' (Le.refl _) po.rel.sub, q _ F' H' po.n ⟨fun i H1 F1 l s hi => ?_, fun i H1 F1 x H2 l s hi y => ?_, fun H1 F1 l s => ?_⟩⟩
    · rw [List.length_reverse] at hi
      obtain ⟨u, hu⟩ := getLt (l := us) (i := us.length - 1 - i) (by omega)
      exact ⟨by omega, us, u, hq F1 H1 l s, hu⟩
    · rw [List.length_reverse] at hi
      obtain ⟨rfl, y⟩ := y
      obtain ⟨d1, hd1⟩ := getLt (l := ds2) (i := us.length - 1 - i) (by omega)
      obtain ⟨u1, hu1, ru⟩ := rs.get hd1
      have hu := y us (hq F1 H2 l s)
      rw [hu] at hu1; cases hu1
      exact ⟨d1, F1, rev hd1 hi, Le.refl _, s, fun _ _ h => h, fun _ h => .inl h, RepD.le l ru⟩
    · show us.length ≤ ds2.reverse.length
      rw [List.length_reverse]; omega
end VI

set_option Elab.async false
set_option linter.all false
set_option maxRecDepth 100000
set_option maxHeartbeats 4000000
/-! VV: slices with a step -/
namespace VI
open PySem PySem.Spec L2
open PyProof.Rows hiding St
variable {X : Cx} {a b c e : Expr} {es : List Expr} {pos : Pos} {A : Nat → Bool}

theorem fm_congr {α β : Type} {f g : α → Option β} : ∀ {l : List α}, (∀ x ∈ l, f x = g x) → l.filterMap f = l.filterMap g
  | [], _ => rfl
  | x :: l, h => by rw [List.filterMap_cons, List.filterMap_cons, h x List.mem_cons_self, fm_congr fun y hy => h y (List.mem_cons_of_mem _ hy)]
def cntN (n i st : Nat) : Nat := (n - i + st - 1) / st
def everyL {α : Type} (xs : List α) (i st : Nat) : List α := (List.range (cntN xs.length i st)).filterMap fun m => xs[i + st * m]?
/-- xs[lo::st]: backwards whole, or forwards by more than one -/
def stepL {α : Type} (xs : List α) (lo : Option Int) (st : Int) : Option (List α) := match lo with
  | none => if st = -1 then some xs.reverse else if 1 < st then some (everyL xs 0 st.toNat) else none
  | some i => if 1 < st ∧ 0 ≤ i then some (everyL xs i.toNat st.toNat) else none
theorem rev_pick {α : Type} (xs : List α) (f : Nat → Nat) (hf : ∀ m, m < xs.length → f m = xs.length - 1 - m) : ((List.range xs.length).filterMap fun m => xs[f m]?) = xs.reverse := by
  have h : ((List.range xs.length).filterMap fun m => xs[f m]?) = (List.range xs.length).filterMap fun m => xs.reverse[m]? := by
    apply fm_congr
    intro m hm
    have hm := List.mem_range.mp hm
    rw [hf m hm, List.getElem?_reverse hm]
  rw [h]
  have e : ∀ ys : List α, ((List.range ys.length).filterMap fun m => ys[m]?) = ys := fun ys => by
    induction ys with
    | nil => rfl
    | cons y ys ih =>
      rw [List.length_cons, List.range_succ_eq_map, List.filterMap_cons]
      simp only [List.getElem?_cons_zero, List.filterMap_map]
      have : ((fun m => (y :: ys)[m]?) ∘ Nat.succ) = fun m => ys[m]? := by funext m; simp
      rw [this, ih]
  rw [show xs.length = xs.reverse.length from List.length_reverse.symm]
  exact e _
theorem every_len {α : Type} (xs : List α) (i st : Nat) (hs : 1 < st) : (everyL xs i st).length ≤ xs.length := by
  refine Nat.le_trans (List.length_filterMap_le _ _) ?_
  rw [List.length_range]
  unfold cntN
  by_cases h : xs.length - i = 0
  · rw [h, Nat.div_eq_of_lt (by omega)]; omega
  · exact Nat.le_trans (Nat.div_le_of_le_mul (by
      have : st * xs.length ≥ xs.length - i + st - 1 := by
        have h1 : (st - 1) * (xs.length - 1) ≥ 0 := Nat.zero_le _
        have h2 : 1 ≤ xs.length := by omega
        obtain ⟨k, hk⟩ : ∃ k, xs.length = k + 1 := ⟨xs.length - 1, by omega⟩
        rw [hk, Nat.mul_add]
        have : k ≤ st * k := Nat.le_mul_of_pos_left _ (by omega)
        omega
      exact this)) (Nat.le_refl _)
theorem step_len {α : Type} {xs ys : List α} {lo : Option Int} {st : Int} (h : stepL xs lo st = some ys) : ys.length ≤ xs.length := by
  unfold stepL at h
  split at h
  · split at h
    · cases h; simp
    · obtain ⟨h1, h⟩ := ite_some h
      cases h
      exact every_len _ _ _ (by omega)
  · obtain ⟨⟨h1, h2⟩, h⟩ := ite_some h
    cases h
    exact every_len _ _ _ (by omega)
theorem cnt_div {n i st : Nat} (hs : 1 < st) (h : i < n) : (((n : Int) - i + st - 1) / (st : Int)).toNat = cntN n i st := by
  unfold cntN
  have e : ((n : Int) - i + st - 1) = ((n - i + st - 1 : Nat) : Int) := by omega
  rw [e, ← Int.natCast_ediv, Int.toNat_natCast]
theorem cnt_zero {n i st : Nat} (hs : 1 < st) (h : ¬ i < n) : cntN n i st = 0 := by
  unfold cntN
  rw [show n - i = 0 by omega, Nat.div_eq_of_lt (by omega)]
/-- of a list -/
theorem every_pick (its : List Value) (i st : Nat) (hs : 1 < st) : ((sliceRange (max 0 (min (i : Int) its.length)) its.length st).filterMap (its.toArray[·]?)) = everyL its i st := by
  unfold sliceRange everyL
  have hp : (st : Int) > 0 := by omega
  simp only [hp, if_true]
  rw [List.filterMap_map]
  by_cases h : i < its.length
  · have e1 : max (0 : Int) (min (i : Int) its.length) = i := by omega
    rw [e1, if_pos (by omega), cnt_div hs h]
    apply fm_congr
    intro m _
    have e2 : ((i : Int) + st * (m : Int)).toNat = i + st * m := by
      have : (st : Int) * (m : Int) = ((st * m : Nat) : Int) := by simp
      omega
    simp only [Function.comp, e2]
    simp
  · have e1 : max (0 : Int) (min (i : Int) its.length) = its.length := by omega
    rw [e1, if_neg (by omega), cnt_zero hs h]
    rfl
theorem pick_list {its ys : List Value} {lo : Option Int} {st : Int} (h : stepL its lo st = some ys) : slicePick its.toArray lo none (some st) = ys.toArray := by
  unfold slicePick
  have hsz : its.toArray.size = its.length := List.size_toArray
  unfold stepL at h
  split at h
  · split at h
    · rename_i hst
      cases h
      subst hst
      simp only [sliceBounds, hsz, Option.getD_some, show ¬ ((-1 : Int) > 0) by decide, if_false]
      unfold sliceRange
      simp only [show ¬ ((-1 : Int) > 0) by decide, if_false]
      rw [List.filterMap_map]
      by_cases h0 : its.length = 0
      · have : its = [] := List.length_eq_zero_iff.mp h0
        subst this; rfl
      · have e : ((((its.length : Int) - 1 - -1 - -1 - 1) / - -1)).toNat = its.length := by
          have : (- -1 : Int) = 1 := by decide
          rw [this, Int.ediv_one]; omega
        rw [if_pos (by omega), e]
        congr 1
        have := rev_pick its (fun m => ((its.length : Int) - 1 + -1 * (m : Int)).toNat) (fun m hm => by omega)
        rw [← this]
        apply fm_congr
        intro m _
        simp
    · obtain ⟨h1, h⟩ := ite_some h
      cases h
      obtain ⟨n, rfl⟩ : ∃ n : Nat, st = n := ⟨st.toNat, by omega⟩
      simp only [sliceBounds, hsz, Option.getD_some, show ((n : Int) > 0) by omega, if_true]
      have := every_pick its 0 n (by omega)
      rw [show max (0 : Int) (min ((0 : Nat) : Int) its.length) = 0 by omega] at this
      rw [this]
      simp
  · obtain ⟨⟨h1, h2⟩, h⟩ := ite_some h
    cases h
    rename_i i
    obtain ⟨n, rfl⟩ : ∃ n : Nat, st = n := ⟨st.toNat, by omega⟩
    obtain ⟨j, rfl⟩ : ∃ j : Nat, i = j := ⟨i.toNat, by omega⟩
    simp only [sliceBounds, hsz, Option.getD_some, show ((n : Int) > 0) by omega, if_true, show ¬ ((j : Int) < 0) by omega, if_false]
    have := every_pick its j n (by omega)
    rw [this]
    simp
/-- of a tuple -/
theorem pick_tup {its ys : List Value} {lo : Option Int} {st : Int} (h : stepL its lo st = some ys) :
    st ≠ 1 ∧ st ≠ 0 ∧ ((List.range (Builtin.Slice.slicePlaces (Builtin.Slice.sliceAdjust lo none st its.length).1 (Builtin.Slice.sliceAdjust lo none st its.length).2 st)).filterMap fun (m : Nat) => its.toArray[((Builtin.Slice.sliceAdjust lo none st its.length).1 + (m : Int) * st).toNat]?) = ys := by
  have every : ∀ (i n : Nat), 1 < n → (List.range (Builtin.Slice.slicePlaces (min (i : Int) its.length) its.length n)).filterMap (fun (m : Nat) => its.toArray[((min (i : Int) its.length) + (m : Int) * n).toNat]?) = everyL its i n := fun i n hn => by
    unfold Builtin.Slice.slicePlaces everyL
    simp only [show ((n : Int) > 0) by omega, if_true]
    by_cases h : i < its.length
    · have e1 : min (i : Int) its.length = i := by omega
      rw [e1, if_pos (by omega)]
      have e2 : (((its.length : Int) - i - 1) / (n : Int) + 1).toNat = cntN its.length i n := by
        rw [← cnt_div hn h]
        have e3 : (its.length : Int) - i + n - 1 = (its.length - i - 1) + 1 * (n : Int) := by omega
        rw [e3, Int.add_mul_ediv_right _ _ (by omega)]
      rw [e2]
      apply fm_congr
      intro m _
      have e4 : ((i : Int) + (m : Int) * n).toNat = i + n * m := by
        have : (m : Int) * (n : Int) = ((n * m : Nat) : Int) := by rw [Int.natCast_mul, Int.mul_comm]
        omega
      rw [e4]; simp
    · rw [if_neg (by omega), cnt_zero hn h]
      rfl
  unfold stepL at h
  split at h
  · split at h
    · rename_i hst
      cases h
      subst hst
      refine ⟨by decide, by decide, ?_⟩
      unfold Builtin.Slice.sliceAdjust Builtin.Slice.slicePlaces
      simp only [show ((-1 : Int) < 0) by decide, if_true, show ¬ ((-1 : Int) > 0) by decide, if_false]
      by_cases h0 : its.length = 0
      · have : its = [] := List.length_eq_zero_iff.mp h0
        subst this; rfl
      · have e : ((((its.length : Int) - 1 - -1 - 1) / - -1) + 1).toNat = its.length := by
          have : (- -1 : Int) = 1 := by decide
          rw [this, Int.ediv_one]; omega
        rw [if_pos (by omega), e]
        have := rev_pick its (fun m => ((its.length : Int) - 1 + (m : Int) * -1).toNat) (fun m hm => by omega)
        rw [← this]
        apply fm_congr
        intro m _
        simp
    · obtain ⟨h1, h⟩ := ite_some h
      cases h
      obtain ⟨n, rfl⟩ : ∃ n : Nat, st = n := ⟨st.toNat, by omega⟩
      refine ⟨by omega, by omega, ?_⟩
      have e := every 0 n (by omega)
      rw [show min ((0 : Nat) : Int) (its.length : Int) = 0 by omega] at e
      unfold Builtin.Slice.sliceAdjust
      simp only [show ¬ ((n : Int) < 0) by omega, if_false]
      rw [e]
      simp
  · obtain ⟨⟨h1, h2⟩, h⟩ := ite_some h
    cases h
    rename_i i
    obtain ⟨n, rfl⟩ : ∃ n : Nat, st = n := ⟨st.toNat, by omega⟩
    obtain ⟨j, rfl⟩ : ∃ j : Nat, i = j := ⟨i.toNat, by omega⟩
    refine ⟨by omega, by omega, ?_⟩
    have e := every j n (by omega)
    unfold Builtin.Slice.sliceAdjust
    simp only [show ¬ ((n : Int) < 0) by omega, if_false, show ¬ ((j : Int) < 0) by omega]
    rw [e]
    simp
section
variable {prog : Program} {w : World} {A : Around} {E : Value → Shared → Prop} {s : Shared}
theorem sliceApplied_step {sl : Addr} {vl vu vs : Value} {lo hi : Option Int} {st : Int} {n : Nat} {Q : Int × Int × Nat → Shared → Prop} (hs : s.heap.IsSliceOf sl vl vu vs) (pl : IsPart vl lo) (pu : IsPart vu hi) (ps : IsPart vs (some st)) (h0 : st ≠ 0)
    (h : Q ((Builtin.Slice.sliceAdjust lo hi st n).1, st, Builtin.Slice.slicePlaces (Builtin.Slice.sliceAdjust lo hi st n).1 (Builtin.Slice.sliceAdjust lo hi st n).2 st) s) : wpAny (model prog w) A (Builtin.Slice.sliceApplied (.ref sl) (pure (n : Int))) Q E s := by
  obtain ⟨os, hos, hcs, hds⟩ := id hs
  unfold Builtin.Slice.sliceApplied Builtin.Slice.sliceFields
  refine wpAny_bind (wpAny_bind (wpAny_field hos hds (x := vl) rfl (wpAny_bind (wpAny_field hos hds (x := vu) rfl (wpAny_bind (wpAny_field hos hds (x := vs) rfl (wpAny_pure ?_)))))))
  refine wpAny_bind (HT.slicePart_ ps ?_)
  show wpAny _ _ (if (st == 0) = true then _ else _) _ _ s
  rw [if_neg (by simpa using h0)]
  refine wpAny_bind (HT.slicePart_ pl (wpAny_bind (HT.slicePart_ pu (wpAny_bind (wpAny_pure ?_)))))
  exact wpAny_pure h
theorem getItem_tuple_step {t sl : Addr} {its ys : List Value} {vl vu vs : Value} {lo : Option Int} {st : Int} {Q : Value → Shared → Prop} (ht : IsTup s.heap t its.toArray) (hs : s.heap.IsSliceOf sl vl vu vs) (pl : IsPart vl lo) (pu : IsPart vu none) (ps : IsPart vs (some st)) (hy : stepL its lo st = some ys)
    (h : Q (.ref s.heap.objs.size) { s with heap := s.heap.push { cls := .type "tuple", data := .seq ys.toArray } })
    (hsz : its.length ≤ sizeLine) : wpAny (model prog w) A (getItem (.ref t) (.ref sl)) Q E s := by
  obtain ⟨h1, h0, hp⟩ := pick_tup hy
  have htake : sizeOk (.seq ys.toArray) := by
    show ys.toArray.size ≤ sizeLine
    rw [List.size_toArray]
    exact Nat.le_trans (step_len hy) hsz
  obtain ⟨os, hos, hcs, hds⟩ := id hs
  have hTs : s.TypeIs (.ref sl) "slice" := ⟨os, hos, hcs⟩
  unfold getItem
  try with_reducible refine wpAny_holding ?_
  first | refine wpAny_bind (wpAny_pure ?_) | skip
  refine wpAny_bind (wpAny_sequenceKey ht.typeIs (by decide) ?_)
  refine wpAny_bind (wpAny_callSpecial?_slot (name := Str.ofString "__getitem__") ht.typeIs PyProof.Rows.slot_tuple_getitem
    (wpAny_call_entry PyProof.Rows.slot_tuple_getitem ht.typeIs entry_tuple_getitem ?_ (args_tuple_getitem _ _)))
  show wpAny _ _ (Builtin.Tuple.tupleItemsOf (.ref t) >>= _) _ _ s
  refine wpAny_bind (tupleItemsOf_ ht ?_)
  refine wpAny_bind (wpAny_typeOf hTs ?_)
  rw [if_pos (by decide)]
  have hlen : its.toArray.size = its.length := List.size_toArray
  rw [hlen]
  refine wpAny_bind (sliceApplied_step hs pl pu ps h0 ?_)
  have hno : ¬ (((Builtin.Slice.sliceAdjust lo none st its.length).1 == 0 && st == 1 && (Builtin.Slice.slicePlaces (Builtin.Slice.sliceAdjust lo none st its.length).1 (Builtin.Slice.sliceAdjust lo none st its.length).2 st) == its.toArray.size) = true) := by
    intro q
    rw [Bool.and_eq_true, Bool.and_eq_true] at q
    exact h1 (eq_of_beq q.1.2)
  show wpAny _ _ (if ((Builtin.Slice.sliceAdjust lo none st its.length).1 == 0 && st == 1 && (Builtin.Slice.slicePlaces (Builtin.Slice.sliceAdjust lo none st its.length).1 (Builtin.Slice.sliceAdjust lo none st its.length).2 st) == its.toArray.size) = true then _ else _) _ _ s
  rw [if_neg hno, hp]
  first
    | exact wpAny_bind (m := Builtin.Tuple.tupleExact _) (wpAny_newObj_type (wpAny_pure ⟨_, rfl, wpAny_pure h⟩) htake)
    | exact wpAny_bind (m := Builtin.Tuple.tupleExact _) (wpAny_newObj_type (wpAny_bind (wpAny_pure (wpAny_pure ⟨_, rfl, wpAny_pure h⟩))) htake)
    | exact wpAny_bind (wpAny_bind (m := Builtin.Tuple.tupleExact _) (wpAny_newObj_type (wpAny_pure (wpAny_pure ⟨_, rfl, wpAny_pure h⟩)) htake))
    | exact wpAny_bind (wpAny_bind (m := Builtin.Tuple.tupleExact _) (wpAny_newObj_type (wpAny_pure ⟨_, rfl, wpAny_pure h⟩) htake))
end
theorem stepL_vals {vs : List V} {its : List Value} (r : Vals vs its) {lo : Option Int} {st : Int} {ys : List V} (h : stepL vs lo st = some ys) : ∃ zs, stepL its lo st = some zs ∧ Vals ys zs := by
  have hl := r.length
  have ev : ∀ i n, Vals (everyL vs i n) (everyL its i n) := fun i n => by
    unfold everyL
    rw [hl]
    generalize List.range (cntN its.length i n) = l
    induction l with
    | nil => exact .nil
    | cons m l ih =>
      rw [List.filterMap_cons, List.filterMap_cons]
      cases q : vs[i + n * m]? with
      | none =>
        have : its[i + n * m]? = none := by
          rw [List.getElem?_eq_none_iff] at q ⊢
          omega
        rw [this]
        exact ih
      | some v =>
        obtain ⟨u, hu, ru⟩ := r.get q
        rw [hu]
        exact .cons ru ih
  unfold stepL at h ⊢
  cases lo with
  | none =>
    simp only at h ⊢
    split at h
    · rename_i hst
      cases h
      rw [if_pos hst]
      exact ⟨_, rfl, r.reverse⟩
    · rename_i hst
      obtain ⟨h1, h⟩ := ite_some h
      cases h
      rw [if_neg hst, if_pos h1]
      exact ⟨_, rfl, ev _ _⟩
  | some i =>
    simp only at h ⊢
    obtain ⟨h1, h⟩ := ite_some h
    cases h
    rw [if_pos h1]
    exact ⟨_, rfl, ev _ _⟩
theorem stepL_rep {G : Gx} {F : Hp} {ds : List D} {us : List V} (r : RepDs G F ds us) {lo : Option Int} {st : Int} {ys : List D} (h : stepL ds lo st = some ys) : ∃ zs, stepL us lo st = some zs ∧ RepDs G F ys zs := by
  have hl := r.length
  have ev : ∀ i n, RepDs G F (everyL ds i n) (everyL us i n) := fun i n => by
    unfold everyL
    rw [hl]
    generalize List.range (cntN us.length i n) = l
    induction l with
    | nil => rfl
    | cons m l ih =>
      rw [List.filterMap_cons, List.filterMap_cons]
      cases q : ds[i + n * m]? with
      | none =>
        have : us[i + n * m]? = none := by
          rw [List.getElem?_eq_none_iff] at q ⊢
          omega
        rw [this]
        exact ih
      | some v =>
        obtain ⟨u, hu, ru⟩ := r.get q
        rw [hu]
        exact ⟨_, _, rfl, ru, ih⟩
  unfold stepL at h ⊢
  cases lo with
  | none =>
    simp only at h ⊢
    split at h
    · rename_i hst
      cases h
      rw [if_pos hst]
      exact ⟨_, rfl, r.reverse⟩
    · rename_i hst
      obtain ⟨h1, h⟩ := ite_some h
      cases h
      rw [if_neg hst, if_pos h1]
      exact ⟨_, rfl, ev _ _⟩
  | some i =>
    simp only at h ⊢
    obtain ⟨h1, h⟩ := ite_some h
    cases h
    rw [if_pos h1]
    exact ⟨_, rfl, ev _ _⟩
/-- what a slice with a step is, by values -/
def rStep (K : PySem.W.Frag) : V → Option Int → Int → Hp → VK → Prop := fun x lo st H Q => ∃ a xs ys, x = .ref a ∧ stepL xs lo st = some ys ∧ ((SqL K H a xs ∧ ∀ p, H p = none → Q (.ref p) (upd H p (.lst ys))) ∨ (SqT K H a xs ∧ NewT ys H Q))
def tStep (K : PySem.W.Frag) (te : TE) (tl : TO) (ts : TE) : TE := fun σ H Q => te σ H fun x H1 => tl σ H1 fun l H2 => ts σ H2 fun z H3 => ∃ st, z = .int st ∧ rStep K x l st H3 Q
theorem pe_step {e1 st : Expr} {lo : Option Expr} {te ts : TE} {tl : TO} {p2 : Pos} (he : PE X e1 te) (hl : PO X lo tl) (hs : PE X st ts) : PE X (.Subscript e1 (.Slice lo none (some st) p2) pos) (tStep X.K te tl ts) := by
  refine ⟨fun pins s σ H Q I h => ?_⟩
  refine Subscript_ (thn (he.run pins s σ H _ I h) fun v s1 ⟨x, H1, I1, r1, q1⟩ => ?_)
  refine wpAny_Slice (thn (hl.run pins s1 σ H1 _ I1 q1) fun vl s2 ⟨l, H2, I2, pl, q2⟩ => ?_)
  rw [evalPart_none]
  refine wpAny_pure ?_
  rw [evalPart_some]
  refine thn (hs.run pins s2 σ H2 _ I2 q2) fun vs s3 ⟨z, H3, I3, rz, k, ez, q3⟩ => ?_
  subst ez
  obtain ⟨tk, rfl⟩ := rz
  obtain ⟨a, xs, ys, rfl, hy, q3⟩ := q3
  cases r1
  have I4 : Inv X pins σ H3 { s3 with heap := s3.heap.push { cls := .type "slice", data := .fields #[vl, .none, .int k tk] } } := I3.kept (t' := s3.toks) fun b ob q => Heap.get?_push_of_some _ q
  show wpAny (model X.prog X.w) X.A (subscriptTail e1 (.Slice lo none (some st) p2) (.ref a) (.ref s3.heap.objs.size)) (EP X pins σ Q) X.xe { s3 with heap := s3.heap.push { cls := .type "slice", data := .fields #[vl, .none, .int k tk] } }
  rcases q3 with ⟨hx, q3⟩ | ⟨hx, q3⟩
  · obtain ⟨its, r, ht, hz⟩ := I4.list hx
    have hlen := r.length
    obtain ⟨zs, hzs, rz⟩ := stepL_vals r hy
    refine tail_any (ops := [.ref a, .ref s3.heap.objs.size]) ht.isList.typeIs slot_list_getitem.lookup ?_ (by with_unfolding_all rfl)
    refine wpAny_getItem_list_slice ht.isList (Heap.IsSliceOf.new ..) pl .none (.int k tk) (st := some k) (by
      rintro h0; cases h0
      exact absurd rfl (pick_tup hzs).2.1) ?_ (by rw [List.size_toArray] <;> omega)
    rw [pick_list hzs]
    refine ⟨.ref _, _, I4.laid (t' := s3.toks) (o := .lst ys) (fun b ob q => Heap.get?_push_of_some _ q) (Nat.le_refl _) ?_, rfl, q3 _ (I4.hok.fresh (Nat.le_refl _))⟩
    exact ⟨Nat.le_trans (step_len hy) (by omega), _, 0, rz, Heap.get?_push_size _ rfl⟩
  · obtain ⟨its, r, ht, hz⟩ := I4.tuple hx
    have hlen := r.length
    obtain ⟨zs, hzs, rz⟩ := stepL_vals r hy
    refine tail_any (ops := [.ref a, .ref s3.heap.objs.size]) ht.typeIs PyProof.Rows.slot_tuple_getitem.lookup ?_ (by with_unfolding_all rfl)
    refine getItem_tuple_step ht (Heap.IsSliceOf.new ..) pl .none (.int k tk) hzs ?_ (by omega)
    exact ep_tup (t' := s3.toks) I4 rz (Nat.le_trans (step_len hy) (by omega)) q3
def stpD (d : D) (lo : Option Int) (st : Int) : Option T := match d with
  | .lst xs => (stepL xs lo st).bind fun ys => some (.lst ys)
  | .tup xs => (stepL xs lo st).bind fun ys => some (.lf (.tup ys))
  | _ => none
def dStep (m : Den) (lo : Option Den) (ms : Den) : Den := fun ρ => (dD m ρ).bind fun p => (dPart lo p.2).bind fun q => (dD ms q.2).bind fun r => match r.1 with
  | .int st => (stpD p.1 q.1 st).bind fun t => some (t, r.2)
  | _ => none
theorem se_step {m ms : Den} {st : Expr} {lo : Option Expr} {ml : Option Den} {p2 : Pos} (ha : SE X a m) (hl : SPt X lo ml) (hs : SE X st ms) : SE X (.Subscript a (.Slice lo none (some st) p2) pos) (dStep m ml ms) := by
  obtain ⟨ta, pa, ka⟩ := ha.d
  obtain ⟨tl, pl, kl⟩ := hl
  obtain ⟨ts, ps, ks⟩ := hs.d
  refine ⟨_, pe_step pa pl ps, fun F H ρ σ t ρ' Q R e q => ?_⟩
  obtain ⟨⟨d, ρ1⟩, e1, e⟩ := bind_some e
  obtain ⟨⟨o1, ρ2⟩, e2, e⟩ := bind_some e
  obtain ⟨⟨k, ρ3⟩, e3, e⟩ := bind_some e
  cases k with
  | int st0 =>
    obtain ⟨t', e4, e⟩ := bind_some e
    cases e
    refine ka F H ρ σ d ρ1 _ R e1 fun v F1 H1 p1 => ?_
    refine kl F1 H1 ρ1 σ o1 ρ2 _ p1.rel e2 fun F2 H2 p2 => ?_
    refine ks F2 H2 ρ2 σ _ _ _ p2.rel e3 fun vk F3 H3 p3 => ?_
    refine ⟨st0, p3.rep, ?_⟩
    have s := p3.rel.sub
    have r := RepD.le (p2.st.le.trans p3.st.le) p1.rep
    have fin : ∀ {v F' H'}, PV (gx X) F3 H3 t v F' H' → Q v H' := fun {v F' H'} pv => q v F' H' (p1.n.trE (p2.trE (p3.n.trE (pv.poE p3.rel))))
    cases d with
    | lst xs =>
      obtain ⟨ys, e5, e4⟩ := bind_some e4
      cases e4
      obtain ⟨p, us, rfl, h1, r1⟩ := r
      obtain ⟨zs, e6, r2⟩ := stepL_rep r1 e5
      exact ⟨p, us, zs, rfl, e6, .inl ⟨SqL.of (s.lst h1), fun p hp => fin (PV.lst s r2 hp)⟩⟩
    | tup xs =>
      obtain ⟨ys, e5, e4⟩ := bind_some e4
      cases e4
      obtain ⟨p, us, o, rfl, h1, _, r1⟩ := r
      obtain ⟨zs, e6, r2⟩ := stepL_rep r1 e5
      exact ⟨p, us, zs, rfl, e6, .inr ⟨s.rdT h1 _, PV.newT s r2 fun v F' H' pv => fin pv⟩⟩
    | _ => cases e4
  | _ => cases e
end VI

set_option Elab.async false
set_option linter.all false
set_option maxRecDepth 100000
set_option maxHeartbeats 4000000
/-! VW: methods of lists, tuples, texts: index, count, join -/
namespace VI
open PySem PySem.Spec L2
open PyProof.Rows hiding St
variable {X : Cx} {a b c e : Expr} {es : List Expr} {pos : Pos} {A : Nat → Bool}

abbrev WM := V → Hp → (List V → Hp → VK → Prop) → Prop
/-- a method by its name: of which values, what it does -/
def MW (X : Cx) (name : Str) (W : WM) : Prop := ∀ (x : V) (H : Hp) (r : List V → Hp → VK → Prop), W x H r → ∀ (pins : List (Addr × Obj)) (σ : St) (s : Shared) (v : Value), Inv X pins σ H s → RelV x v →
  ∃ T id, PlainAttrs T ∧ Slot T name id ∧ typeOf (.builtin id) = pure (.type "method_descriptor") ∧ s.TypeIs v T ∧ (∀ a, v = .ref a → ∃ ob, s.heap.get? a = some ob ∧ ob.dict = none) ∧
    ∀ (pins' : List (Addr × Obj)) (s' : Shared) (σ' : St) (H' : Hp) (xs : List V) (us : List Value) (Q : VK), Inv X pins' σ' H' s' → Vals xs us → r xs H' Q → wpAny (model X.prog X.w) X.A (call (.builtin id) (v :: us)) (EP X pins' σ' Q) X.xe s'
def WM.or (W W' : WM) : WM := fun x H r => W x H r ∨ W' x H r
theorem MW.or {name : Str} {W W' : WM} (h : MW X name W) (h' : MW X name W') : MW X name (WM.or W W') := fun x H r q => q.elim (h x H r) (h' x H r)
def WM.of (ty : V → Hp → Prop) (r : V → List V → Hp → VK → Prop) : WM := fun x H q => ty x H ∧ q = r x
def TyW (X : Cx) (T : String) (ty : V → Hp → Prop) : Prop := ∀ (x : V) (H : Hp), ty x H → ∀ (pins : List (Addr × Obj)) (σ : St) (s : Shared) (v : Value), Inv X pins σ H s → RelV x v → s.TypeIs v T ∧ ∀ a, v = .ref a → ∃ ob, s.heap.get? a = some ob ∧ ob.dict = none
theorem MW.one {name : Str} {T id : String} {ty : V → Hp → Prop} {r : V → List V → Hp → VK → Prop} (pa : PlainAttrs T) (slot : Slot T name id) (hty : typeOf (.builtin id) = pure (.type "method_descriptor")) (ht : TyW X T ty) (hm : MtR X id r) : MW X name (WM.of ty r) := by
  rintro x H q ⟨h1, rfl⟩ pins σ s v I rv
  obtain ⟨t1, t2⟩ := ht x H h1 pins σ s v I rv
  exact ⟨T, id, pa, slot, hty, t1, t2, fun pins' s' σ' H' xs us Q I' rx q => hm pins' s' σ' H' x xs v us Q I' rv rx q⟩
def tyL (K : PySem.W.Frag) : V → Hp → Prop := fun x H => ∃ p xs, x = .ref p ∧ SqL K H p xs
def tyT : V → Hp → Prop := fun x H => ∃ p o us, x = .ref p ∧ H p = some (.frz o (.tup us)) ∧ o.dict = none
def tyS : V → Hp → Prop := fun x _ => ∃ z, x = .str z
theorem tyL_ok : TyW X "list" (tyL X.K) := by
  rintro x H ⟨p, xs, rfl, hq⟩ pins σ s v I rv
  exact tyV_is I rv (.inl ⟨rfl, xs, hq⟩)
theorem tyS_ok : TyW X "str" tyS := by
  rintro x H ⟨z, rfl⟩ pins σ s v I rv
  exact tyV_is I rv rfl
theorem tyT_ok : TyW X "tuple" tyT := by
  rintro x H ⟨p, o, us, rfl, hp, hd⟩ pins σ s v I rv
  obtain rfl : v = Value.ref p := rv
  obtain ⟨e, _, its, _, tp⟩ := I.hok p _ hp
  refine ⟨tp.typeIs, fun a ea => ?_⟩
  cases ea
  exact ⟨o, e, hd⟩
def tMW (W : WM) (to : TE) (t : TA) : TE := fun σ H Q => to σ H fun x H1 => ∃ r, W x H1 r ∧ t σ H1 fun xs H2 => r xs H2 Q
theorem pe_mw {o : Expr} {name : Str} {W : WM} {to : TE} {t : TA} {apos cpos : Pos} (hm : MW X name W) (ho : PE X o to) (ha : PA X (e :: es) t)
    (hbase : attributeBase o name X.env (eval o X.env) = eval o X.env)
    (hfew : ((backTo cpos (starEach (e :: es) X.env)).all (fun x => !x.1) && (backToKw cpos (keywordEach [] X.env)).all (fun x => x.1.isSome)
      && decide ((e :: es).length + ([] : List Keyword).length + (if ([] : List Keyword).isEmpty then 0 else 1) < 30)) = true)
    (hline : (apos.endLine == cpos.line) = true) (hs : starEach (e :: es) X.env = (false, eval e X.env) :: starEach es X.env) (hplain : (backTo cpos (starEach es X.env)).any (·.1) = false) :
    PE X (.Call (.Attribute o name apos) (e :: es) [] cpos) (tMW W to t) := by
  refine ⟨fun pins s σ H Q I h => ?_⟩
  refine wpAny_Call_method_late hbase hfew hline rfl (thn (ho.run pins s σ H _ I h) fun v s1 ⟨x, H1, I1, r1, q1⟩ => ?_)
  obtain ⟨r, hw, q1⟩ := q1
  obtain ⟨T, id, pa, slot, hty, h1, h2, hc⟩ := hm x H1 r hw pins σ s1 v I1 r1
  refine ⟨T, id, pa, slot, hty, h1, h2, ?_⟩
  have hA := ha.run cpos pins s1 σ H1 _ I1 q1
  rw [hs] at hA ⊢
  refine Calls.callWith_builtin (by show (false || (backTo cpos (starEach es X.env)).any (·.1)) = false; rw [hplain] <;> rfl) (Calls.evalArgs_plain ?_)
  exact thn hA fun us s2 ⟨vs, H2, I2, r2, q2⟩ => hc pins s2 σ H2 vs us Q I2 r2 q2
def plainBase : Expr → Bool
  | .Call (.Name _ _) [] [] _ => false
  | _ => true
theorem base_ok {o : Expr} {name : Str} {env : Env} (h : plainBase o = true) (w : Sem Value) : attributeBase o name env w = w := by
  unfold attributeBase
  split
  · cases h
  · rfl
def kindD : D → Nat
  | .lst _ => 1
  | .tup _ => 2
  | .str _ => 3
  | .dct _ _ => 4
  | .dctT _ _ => 5
  | _ => 0
/-- what a method tells: of a value and what is given -/
def RulM (X : Cx) (W : WM) (g : D → List D → Option T) : Prop := ∀ (F0 H0 : Hp) (x : V) (d0 : D), Sub F0 H0 → RepB (gx X) F0 H0 d0 x → ∀ (d : D) (ds : List D) (t : T), g d ds = some t → kindD d0 = kindD d →
  ∃ r, W x H0 r ∧ ∀ (F H : Hp) (vs : List V) (Q : VK), Sub F H → RepB (gx X) F H d x → RepDs (gx X) F ds vs → (∀ v F' H', PV (gx X) F H t v F' H' → Q v H') → r vs H Q
def dM (g : D → List D → Option T) (mo : DenO) (ma : DenA) : Den := fun ρ => (mo ρ).bind fun p => (p.1.at_ p.2).bind fun d0 => (ma p.2).bind fun q => (p.1.at_ q.2).bind fun d => if kindD d0 = kindD d then (g d q.1).bind fun t => some (t, q.2) else none
theorem se_m {o : Expr} {name : Str} {W : WM} {g : D → List D → Option T} {mo : DenO} {ma : DenA} {apos cpos : Pos} (hm : MW X name W) (hr : RulM X W g) (ho : SO X o mo) (ha : SA X (e :: es) ma) (hb : plainBase o = true)
    (hfew : ((backTo cpos (starEach (e :: es) X.env)).all (fun x => !x.1) && (backToKw cpos (keywordEach [] X.env)).all (fun x => x.1.isSome)
      && decide ((e :: es).length + ([] : List Keyword).length + (if ([] : List Keyword).isEmpty then 0 else 1) < 30)) = true)
    (hline : (apos.endLine == cpos.line) = true) (hs : starEach (e :: es) X.env = (false, eval e X.env) :: starEach es X.env) (hplain : (backTo cpos (starEach es X.env)).any (·.1) = false) :
    SE X (.Call (.Attribute o name apos) (e :: es) [] cpos) (dM g mo ma) := by
  obtain ⟨to, po, ko⟩ := ho
  obtain ⟨ta, pa, ka⟩ := ha
  refine ⟨_, pe_mw hm po pa (base_ok hb _) hfew hline hs hplain, fun F H ρ σ t ρ' Q R e q => ?_⟩
  obtain ⟨⟨l, ρ1⟩, e1, e⟩ := bind_some e
  obtain ⟨d0, e2, e⟩ := bind_some e
  obtain ⟨⟨ds, ρ2⟩, e3, e⟩ := bind_some e
  obtain ⟨d, e4, e⟩ := bind_some e
  obtain ⟨hk, e⟩ := ite_some' e
  obtain ⟨t', e5, e⟩ := bind_some e
  cases e
  refine ko F H ρ σ l ρ1 _ R e1 fun x F1 H1 p1 n1 => ?_
  obtain ⟨r, hw, k⟩ := hr F1 H1 x d0 p1.rel.sub (n1.now (Le.refl _) p1.rel e2) d ds _ e5 hk
  refine ⟨r, hw, ?_⟩
  refine ka F1 H1 ρ1 σ ds ρ2 _ p1.rel e3 fun vs F2 H2 p2 => ?_
  exact k F2 H2 vs _ p2.rel.sub (n1.now p2.st.le p2.rel e4) p2.rep fun v F3 H3 pv => q v F3 H3 (p1.trE (p2.n.trE (pv.poE p2.rel)))

/-! ### index, count -/
def idxL (x : D) (ys : List D) : Option Nat := ys.findIdx? fun z => eqv z x
def plainL (x : D) (ys : List D) : Bool := sh 63 x && ys.all (sh 63)
def cntL (x : D) (ys : List D) : Nat := ys.countP fun z => eqv z x
def rIdxK (K : PySem.W.Frag) (k : Bool) : V → List V → Hp → VK → Prop := fun x xs H Q => ∃ (p : Addr) (ys : List V) (y : V) (d : PyData) (ds : List PyData) (j : Nat) (z : PyData), x = V.ref p ∧ xs = [y] ∧ Sq K k H p ys ∧ DpAll K H ys ds ∧ Dp K H y d ∧
  PyData.canLayAll0 ds = true ∧ SeqAt.shaped d = true ∧ ds[j]? = some z ∧ PyData.eqv z d = true ∧ (∀ (m : Nat) (z' : PyData), m < j → ds[m]? = some z' → PyData.eqv z' d = false) ∧ Q (.int (j : Nat)) H
def rCntK (K : PySem.W.Frag) (k : Bool) : V → List V → Hp → VK → Prop := fun x xs H Q => ∃ (p : Addr) (ys : List V) (y : V) (d : PyData) (ds : List PyData), x = V.ref p ∧ xs = [y] ∧ Sq K k H p ys ∧ DpAll K H ys ds ∧ Dp K H y d ∧
  PyData.canLayAll0 ds = true ∧ SeqAt.shaped d = true ∧ Q (.int ((ds.countP fun z => PyData.eqv z d : Nat) : Int)) H
theorem mt_idxL (hu : X.A.units + 65 < cLine) : MtR X "list.index" (rIdxK X.K true) := by
  intro pins s σ H x xs v us Q I rx rxs h
  obtain ⟨p, ys, y, d, ds, j, z, rfl, rfl, hl, ha, hy, sl, sd, hz, hzj, hno, q⟩ := h
  cases rx
  obtain ⟨uy, rfl, ry⟩ := rxs.one
  obtain ⟨bs, r1⟩ := Dp.reads I d y uy hy ry
  have hroom : X.A.units + 1 + min (PyData.depthAll ds) d.depth < cLine := room_in_shaped sd hu
  obtain ⟨its, rv, ⟨⟨cls, dd, data, sls⟩, n, ho, hc, hdn, hdt⟩, hlen⟩ := I.list hl
  simp only at hc hdt
  subst hc hdt
  obtain ⟨as, h4⟩ := Dp.readsAll I ds _ its ha rv
  have hn : its.length = ds.length := SeqAt.ReadsAll.length ds its as h4
  have hmap : its.map (SeqAt.readOf s.heap) = ds := SeqAt.readsAll_map ds its as sl h4
  have hvl := rv.length
  have hsl := sizeLine_eq
  obtain ⟨hjd, _⟩ := List.getElem?_eq_some_iff.mp hz
  have hj : j < its.toArray.size := by simp; omega
  have at_ : ∀ (m : Nat) (hm : m < its.toArray.size) (z' : PyData), ds[m]? = some z' → SeqAt.readOf s.heap its.toArray[m] = z' := by
    intro m hm z' hz'
    have hml : m < its.length := by simpa using hm
    rw [← hmap, List.getElem?_map, List.getElem?_eq_getElem hml] at hz'
    have e1 : SeqAt.readOf s.heap its[m] = z' := Option.some.inj (show some (SeqAt.readOf s.heap its[m]) = some z' from hz')
    simpa using e1
  refine call_meets PySem.F.slot_list_index ⟨_, ho, rfl⟩ PySem.F.entry_list_index (PySem.F.args_list_index_2 _ _)
    (SeqAt.list_indexAt p its.toArray n dd sls uy (fun u => PyData.eqv (SeqAt.readOf s.heap u) d) j hj (by omega) ?_ ?_) ⟨ho, SeqAt.items_eqAt (vs := its.toArray) (show ReadsAll s.heap its.toArray.toList ds as from h4) r1 sl (SeqAt.canLay_of_shaped sd) hroom, ?_⟩
  · show PyData.eqv (SeqAt.readOf s.heap its.toArray[j]) d = true
    rw [at_ j hj z hz]
    exact hzj
  · intro m hm hmj
    have hmd : m < ds.length := by omega
    have hz' : ds[m]? = some ds[m] := List.getElem?_eq_getElem hmd
    show PyData.eqv (SeqAt.readOf s.heap its.toArray[m]) d = false
    rw [at_ m hm _ hz']
    exact hno m _ hmj hz'
  · exact ⟨.int (j : Nat), H, I.tok _, ⟨_, rfl⟩, q⟩
theorem mt_idxT (hu : X.A.units + 65 < cLine) : MtR X "tuple.index" (rIdxK X.K false) := by
  intro pins s σ H x xs v us Q I rx rxs h
  obtain ⟨p, ys, y, d, ds, j, z, rfl, rfl, hl, ha, hy, sl, sd, hz, hzj, hno, q⟩ := h
  cases rx
  obtain ⟨uy, rfl, ry⟩ := rxs.one
  obtain ⟨bs, r1⟩ := Dp.reads I d y uy hy ry
  have hroom : X.A.units + 1 + min (PyData.depthAll ds) d.depth < cLine := room_in_shaped sd hu
  obtain ⟨its, rv, ⟨⟨cls, dd, data, sls⟩, ho, hc, n, hdt⟩, hlen⟩ := I.tuple hl
  simp only at hc hdt
  subst hc hdt
  obtain ⟨as, h4⟩ := Dp.readsAll I ds _ its ha rv
  have hn : its.length = ds.length := SeqAt.ReadsAll.length ds its as h4
  have hmap : its.map (SeqAt.readOf s.heap) = ds := SeqAt.readsAll_map ds its as sl h4
  obtain ⟨hjd, _⟩ := List.getElem?_eq_some_iff.mp hz
  have hj : j < its.toArray.size := by simp; omega
  have at_ : ∀ (m : Nat) (hm : m < its.toArray.size) (z' : PyData), ds[m]? = some z' → SeqAt.readOf s.heap its.toArray[m] = z' := by
    intro m hm z' hz'
    have hml : m < its.length := by simpa using hm
    rw [← hmap, List.getElem?_map, List.getElem?_eq_getElem hml] at hz'
    have e1 : SeqAt.readOf s.heap its[m] = z' := Option.some.inj (show some (SeqAt.readOf s.heap its[m]) = some z' from hz')
    simpa using e1
  refine call_meets PySem.F.slot_tuple_index ⟨_, ho, rfl⟩ PySem.F.entry_tuple_index (PySem.F.args_tuple_index_2 _ _)
    (TI.tuple_indexAt p its.toArray n dd sls uy (fun u => PyData.eqv (SeqAt.readOf s.heap u) d) j hj ?_ ?_) ⟨ho, SeqAt.items_eqAt (vs := its.toArray) (show ReadsAll s.heap its.toArray.toList ds as from h4) r1 sl (SeqAt.canLay_of_shaped sd) hroom, ?_⟩
  · show PyData.eqv (SeqAt.readOf s.heap its.toArray[j]) d = true
    rw [at_ j hj z hz]
    exact hzj
  · intro m hm hmj
    have hmd : m < ds.length := by omega
    have hz' : ds[m]? = some ds[m] := List.getElem?_eq_getElem hmd
    show PyData.eqv (SeqAt.readOf s.heap its.toArray[m]) d = false
    rw [at_ m hm _ hz']
    exact hno m _ hmj hz'
  · exact ⟨.int (j : Nat), H, I.tok _, ⟨_, rfl⟩, q⟩
theorem cnt_reads {h : Heap} {its : List Value} {ds : List PyData} {d : PyData} (e : its.map (SeqAt.readOf h) = ds) : its.toArray.toList.countP (fun u => PyData.eqv (SeqAt.readOf h u) d) = ds.countP fun z => PyData.eqv z d := by
  rw [← e, List.countP_map]
  rfl
theorem mt_cntL (hu : X.A.units + 65 < cLine) : MtR X "list.count" (rCntK X.K true) := by
  intro pins s σ H x xs v us Q I rx rxs h
  obtain ⟨p, ys, y, d, ds, rfl, rfl, hl, ha, hy, sl, sd, q⟩ := h
  cases rx
  obtain ⟨uy, rfl, ry⟩ := rxs.one
  obtain ⟨bs, r1⟩ := Dp.reads I d y uy hy ry
  have hroom : X.A.units + 1 + min (PyData.depthAll ds) d.depth < cLine := room_in_shaped sd hu
  obtain ⟨its, rv, ⟨⟨cls, dd, data, sls⟩, n, ho, hc, hdn, hdt⟩, hlen⟩ := I.list hl
  simp only at hc hdt
  subst hc hdt
  obtain ⟨as, h4⟩ := Dp.readsAll I ds _ its ha rv
  have hmap : its.map (SeqAt.readOf s.heap) = ds := SeqAt.readsAll_map ds its as sl h4
  rw [← cnt_reads hmap] at q
  exact call_meets PySem.F.slot_list_count ⟨_, ho, rfl⟩ PySem.F.entry_list_count (PySem.F.args_list_count_2 _ _)
    (SeqAt.list_countAt p its.toArray n dd sls uy _) ⟨ho, SeqAt.items_eqAt (vs := its.toArray) (show ReadsAll s.heap its.toArray.toList ds as from h4) r1 sl (SeqAt.canLay_of_shaped sd) hroom, .int _, H, I.tok _, ⟨_, rfl⟩, q⟩
theorem mt_cntT (hu : X.A.units + 65 < cLine) : MtR X "tuple.count" (rCntK X.K false) := by
  intro pins s σ H x xs v us Q I rx rxs h
  obtain ⟨p, ys, y, d, ds, rfl, rfl, hl, ha, hy, sl, sd, q⟩ := h
  cases rx
  obtain ⟨uy, rfl, ry⟩ := rxs.one
  obtain ⟨bs, r1⟩ := Dp.reads I d y uy hy ry
  have hroom : X.A.units + 1 + min (PyData.depthAll ds) d.depth < cLine := room_in_shaped sd hu
  obtain ⟨its, rv, ⟨⟨cls, dd, data, sls⟩, ho, hc, n, hdt⟩, hlen⟩ := I.tuple hl
  simp only at hc hdt
  subst hc hdt
  obtain ⟨as, h4⟩ := Dp.readsAll I ds _ its ha rv
  have hmap : its.map (SeqAt.readOf s.heap) = ds := SeqAt.readsAll_map ds its as sl h4
  rw [← cnt_reads hmap] at q
  exact call_meets PySem.F.slot_tuple_count ⟨_, ho, rfl⟩ PySem.F.entry_tuple_count (PySem.F.args_tuple_count_2 _ _)
    (SeqAt.tuple_countAt p its.toArray n dd sls uy _) ⟨ho, SeqAt.items_eqAt (vs := its.toArray) (show ReadsAll s.heap its.toArray.toList ds as from h4) r1 sl (SeqAt.canLay_of_shaped sd) hroom, .int _, H, I.tok _, ⟨_, rfl⟩, q⟩
theorem pys_map : ∀ ys : List D, pys ys = ys.map py
  | [] => rfl
  | y :: ys => by rw [pys, List.map_cons, pys_map ys]
theorem idx_py (x : D) (ys : List D) {j : Nat} (h : idxL x ys = some j) : ∃ z, (pys ys)[j]? = some z ∧ PyData.eqv z (py x) = true ∧ ∀ (m : Nat) (z' : PyData), m < j → (pys ys)[m]? = some z' → PyData.eqv z' (py x) = false := by
  obtain ⟨h1, h2, h3⟩ := List.findIdx?_eq_some_iff_getElem.mp h
  rw [pys_map]
  refine ⟨py ys[j], by rw [List.getElem?_map, List.getElem?_eq_getElem h1]; rfl, by rw [eqv_py]; exact h2, fun m z' hm hz => ?_⟩
  rw [List.getElem?_map, List.getElem?_eq_getElem (by omega)] at hz
  cases hz
  rw [eqv_py]
  have := h3 m hm
  simpa using this
theorem cnt_py (x : D) (ys : List D) : ((pys ys).countP fun z => PyData.eqv z (py x)) = cntL x ys := by
  rw [pys_map, List.countP_map]
  unfold cntL
  congr 1
  funext z
  exact eqv_py z x
def wSeq (K : PySem.W.Frag) (r : Bool → V → List V → Hp → VK → Prop) : WM := WM.or (WM.of (tyL K) (r true)) (WM.of tyT (r false))
theorem mw_index (hu : X.A.units + 65 < cLine) : MW X "index" (wSeq X.K (rIdxK X.K)) :=
  (MW.one PySem.F.plainAttrs_list PySem.F.slot_list_index PySem.F.type_list_index tyL_ok (mt_idxL hu)).or (MW.one PySem.F.plainAttrs_tuple PySem.F.slot_tuple_index PySem.F.type_tuple_index tyT_ok (mt_idxT hu))
theorem mw_count (hu : X.A.units + 65 < cLine) : MW X "count" (wSeq X.K (rCntK X.K)) :=
  (MW.one PySem.F.plainAttrs_list PySem.F.slot_list_count PySem.F.type_list_count tyL_ok (mt_cntL hu)).or (MW.one PySem.F.plainAttrs_tuple PySem.F.slot_tuple_count PySem.F.type_tuple_count tyT_ok (mt_cntT hu))
/-- of a list or a tuple: by what its items are -/
theorem rul_seq {r : Bool → V → List V → Hp → VK → Prop} {g : D → List D → Option T} {f : List D → List D → Option T} (hg : ∀ d ds t, g d ds = some t → (∃ ys, d = .lst ys ∧ f ys ds = some t) ∨ ∃ ys, d = .tup ys ∧ f ys ds = some t)
    (hf : ∀ (k : Bool) (F H : Hp) (p : Addr) (ys ds : List D) (us vs : List V) (t : T) (Q : VK), Sub F H → Sq X.K k H p us → RepDs (gx X) F ys us → RepDs (gx X) F ds vs → f ys ds = some t → (∀ v F' H', PV (gx X) F H t v F' H' → Q v H') → r k (.ref p) vs H Q) :
    RulM X (wSeq X.K r) g := by
  intro F0 H0 x d0 s0 r0 d ds t e hk
  rcases hg d ds t e with ⟨ys, rfl, e'⟩ | ⟨ys, rfl, e'⟩
  · cases d0 with
    | lst zs =>
      obtain ⟨p, us, rfl, h1, _⟩ := r0.lst s0
      refine ⟨_, .inl ⟨⟨p, us, rfl, SqL.of h1⟩, rfl⟩, fun F H vs Q s rd rs q => ?_⟩
      obtain ⟨p', us', ex, h2, r2⟩ := rd.lst s
      cases ex
      exact hf true F H p ys ds us' vs t Q s (SqL.of h2) r2 rs e' q
    | _ => cases hk
  · cases d0 with
    | tup zs =>
      obtain ⟨p, us, o, rfl, h1, hd, _⟩ := r0.fz rfl
      refine ⟨_, .inr ⟨⟨p, o, us, rfl, s0.tup h1, hd⟩, rfl⟩, fun F H vs Q s rd rs q => ?_⟩
      obtain ⟨p', us', o', ex, h2, _, r2⟩ := rd.fz rfl
      cases ex
      exact hf false F H p ys ds us' vs t Q s (s.rdT h2 _) r2 rs e' q
    | _ => cases hk
def indexD (d : D) (ds : List D) : Option T := match d, ds with
  | .lst ys, [x] => if plainL x ys = true then (idxL x ys).bind fun j => some (.lf (.int (j : Nat))) else none
  | .tup ys, [x] => if plainL x ys = true then (idxL x ys).bind fun j => some (.lf (.int (j : Nat))) else none
  | _, _ => none
def countD (d : D) (ds : List D) : Option T := match d, ds with
  | .lst ys, [x] => if plainL x ys = true then some (.lf (.int (cntL x ys : Nat))) else none
  | .tup ys, [x] => if plainL x ys = true then some (.lf (.int (cntL x ys : Nat))) else none
  | _, _ => none
theorem rul_index : RulM X (wSeq X.K (rIdxK X.K)) indexD := by
  refine rul_seq (f := fun ys ds => match ds with
    | [x] => if plainL x ys = true then (idxL x ys).bind fun j => some (.lf (.int (j : Nat))) else none
    | _ => none) (fun d ds t e => ?_) fun k F H p ys ds us vs t Q s hq r rs e q => ?_
  · unfold indexD at e
    split at e
    · exact .inl ⟨_, rfl, e⟩
    · exact .inr ⟨_, rfl, e⟩
    · cases e
  · split at e
    · rename_i x
      obtain ⟨hp, e⟩ := ite_some' e
      obtain ⟨j, hj, e⟩ := bind_some e
      cases e
      obtain ⟨v, w, rfl, rv, rfl⟩ := rs
      unfold plainL at hp
      simp only [Bool.and_eq_true] at hp
      obtain ⟨z, z1, z2, z3⟩ := idx_py x ys hj
      exact ⟨p, us, v, py x, pys ys, j, z, rfl, rfl, hq, dps_of (G := gx X) s hp.2 r, dp_of (G := gx X) s _ _ _ hp.1 rv, lays_of hp.2, shaped_of (sh_mono _ _ hp.1), z1, z2, z3, q _ F H (PV.same s rfl)⟩
    · cases e
theorem rul_count : RulM X (wSeq X.K (rCntK X.K)) countD := by
  refine rul_seq (f := fun ys ds => match ds with
    | [x] => if plainL x ys = true then some (.lf (.int (cntL x ys : Nat))) else none
    | _ => none) (fun d ds t e => ?_) fun k F H p ys ds us vs t Q s hq r rs e q => ?_
  · unfold countD at e
    split at e
    · exact .inl ⟨_, rfl, e⟩
    · exact .inr ⟨_, rfl, e⟩
    · cases e
  · split at e
    · rename_i x
      obtain ⟨hp, e⟩ := ite_some' e
      cases e
      obtain ⟨v, w, rfl, rv, rfl⟩ := rs
      unfold plainL at hp
      simp only [Bool.and_eq_true] at hp
      refine ⟨p, us, v, py x, pys ys, rfl, rfl, hq, dps_of (G := gx X) s hp.2 r, dp_of (G := gx X) s _ _ _ hp.1 rv, lays_of hp.2, shaped_of (sh_mono _ _ hp.1), ?_⟩
      rw [cnt_py]
      exact q _ F H (PV.same s rfl)
    · cases e
/-! ### texts: join, index -/
def strsD : List D → Option (List Str)
  | [] => some []
  | .str x :: ds => (strsD ds).bind fun r => some (x :: r)
  | _ => none
theorem strsD_rep {G : Gx} {F : Hp} : ∀ {ds : List D} {xs : List Str} {us : List V}, strsD ds = some xs → RepDs G F ds us → us = xs.map V.str
  | [], _, _, h, r => by cases h; exact r
  | .str x :: ds, _, _, h, ⟨u, w, e, r1, r2⟩ => by
    obtain ⟨ys, h1, h⟩ := bind_some h
    cases h
    rw [e, strsD_rep h1 r2]
    cases r1
    rfl
  | .non :: _, _, _, h, _ => by cases h
  | .bl _ :: _, _, _, h, _ => by cases h
  | .int _ :: _, _, _, h, _ => by cases h
  | .lst _ :: _, _, _, h, _ => by cases h
  | .tup _ :: _, _, _, h, _ => by cases h
  | .dct _ _ :: _, _, _, h, _ => by cases h
  | .dctT _ _ :: _, _, _, h, _ => by cases h
  | .scr _ :: _, _, _, h, _ => by cases h
  | .fn _ :: _, _, _, h, _ => by cases h
  | .rng _ _ _ _ :: _, _, _, h, _ => by cases h
  | .ty _ :: _, _, _, h, _ => by cases h
def joinD (d : D) (ds : List D) : Option T := match d, ds with
  | .str a, [.lst ys] => (strsD ys).bind fun xs => if (xs.map (·.length)).sum + xs.length * a.length ≤ 16777216 then some (.lf (.str (Txt.join a xs))) else none
  | .str a, [.tup ys] => (strsD ys).bind fun xs => if (xs.map (·.length)).sum + xs.length * a.length ≤ 16777216 then some (.lf (.str (Txt.join a xs))) else none
  | _, _ => none
theorem mw_join : MW X "join" (WM.of tyS (fun x xs H Q => ∃ a p, ∃ ys : List Str, x = .str a ∧ xs = [.ref p] ∧ (SqL X.K H p (ys.map V.str) ∨ SqT X.K H p (ys.map V.str)) ∧
    (ys.map (·.length)).sum + ys.length * a.length ≤ 16777216 ∧ Q (.str (Txt.join a ys)) H)) := MW.one PySem.F.plainAttrs_str PySem.F.slot_str_join PySem.F.type_str_join tyS_ok mt_join
theorem str_base {F0 H0 : Hp} {x : V} {d0 : D} {a : Str} (r0 : RepB (gx X) F0 H0 d0 x) (hk : kindD d0 = kindD (.str a)) : ∃ z, d0 = .str z ∧ x = .str z := by
  cases d0 with
  | str z => exact ⟨z, rfl, r0.fz rfl⟩
  | _ => cases hk
theorem rul_join : RulM X (WM.of tyS (fun x xs H Q => ∃ a p, ∃ ys : List Str, x = .str a ∧ xs = [.ref p] ∧ (SqL X.K H p (ys.map V.str) ∨ SqT X.K H p (ys.map V.str)) ∧
    (ys.map (·.length)).sum + ys.length * a.length ≤ 16777216 ∧ Q (.str (Txt.join a ys)) H)) joinD := by
  intro F0 H0 x d0 s0 r0 d ds t e hk
  unfold joinD at e
  split at e
  · rename_i a ys
    obtain ⟨xs, e1, e⟩ := bind_some e
    obtain ⟨hz, e⟩ := ite_some e
    cases e
    obtain ⟨z, rfl, rfl⟩ := str_base r0 hk
    refine ⟨_, ⟨⟨z, rfl⟩, rfl⟩, fun F H vs Q s rd rs q => ?_⟩
    have ez : V.str z = V.str a := rd.fz rfl
    cases ez
    obtain ⟨v, w, rfl, rv, rfl⟩ := rs
    obtain ⟨p, us, rfl, h1, r1⟩ := rv
    have := strsD_rep e1 r1
    subst this
    exact ⟨_, p, xs, rfl, rfl, .inl (SqL.of (s.lst h1)), hz, q _ F H (PV.same s rfl)⟩
  · rename_i a ys
    obtain ⟨xs, e1, e⟩ := bind_some e
    obtain ⟨hz, e⟩ := ite_some e
    cases e
    obtain ⟨z, rfl, rfl⟩ := str_base r0 hk
    refine ⟨_, ⟨⟨z, rfl⟩, rfl⟩, fun F H vs Q s rd rs q => ?_⟩
    have ez : V.str z = V.str a := rd.fz rfl
    cases ez
    obtain ⟨v, w, rfl, rv, rfl⟩ := rs
    obtain ⟨p, us, o, rfl, h1, _, r1⟩ := rv
    have := strsD_rep e1 r1
    subst this
    exact ⟨_, p, xs, rfl, rfl, .inr (s.rdT h1 _), hz, q _ F H (PV.same s rfl)⟩
  · cases e
end VI

set_option Elab.async false
set_option linter.all false
set_option maxRecDepth 100000
set_option maxHeartbeats 4000000
/-! VX: a op b op c, isinstance, text.index -/
namespace VI
open PySem PySem.Spec L2
open PyProof.Rows hiding St
variable {X : Cx} {a b c e : Expr} {es : List Expr} {pos : Pos} {A : Nat → Bool}
theorem run_chain {r r' : R2} {g g' : D → D → Option T} {ta tb tc : TE} {ma mb mc : Den}
    (hr : ∀ (F H : Hp) (x y : V) (dx dy : D) (t : T) (Q : VK), Sub F H → RepD (gx X) F dx x → RepD (gx X) F dy y → g dx dy = some t → (∀ v F' H', PV (gx X) F H t v F' H' → Q v H') → r x y H Q)
    (hr' : ∀ (F H : Hp) (x y : V) (dx dy : D) (t : T) (Q : VK), Sub F H → RepD (gx X) F dx x → RepD (gx X) F dy y → g' dx dy = some t → (∀ v F' H', PV (gx X) F H t v F' H' → Q v H') → r' x y H Q)
    (ka : ∀ (F H : Hp) (ρ : En) (σ : St) (d : D) (ρ' : En) (Q : VK), Rel (gx X) F H ρ σ → dD ma ρ = some (d, ρ') → (∀ v F' H', PoD (gx X) F H ρ σ d v F' H' ρ' → Q v H') → ta σ H Q)
    (kb : ∀ (F H : Hp) (ρ : En) (σ : St) (d : D) (ρ' : En) (Q : VK), Rel (gx X) F H ρ σ → dD mb ρ = some (d, ρ') → (∀ v F' H', PoD (gx X) F H ρ σ d v F' H' ρ' → Q v H') → tb σ H Q)
    (kc : ∀ (F H : Hp) (ρ : En) (σ : St) (d : D) (ρ' : En) (Q : VK), Rel (gx X) F H ρ σ → dD mc ρ = some (d, ρ') → (∀ v F' H', PoD (gx X) F H ρ σ d v F' H' ρ' → Q v H') → tc σ H Q)
    (F H : Hp) (ρ : En) (σ : St) (k : Bool) (ρ' : En) (Q : VK) (R : Rel (gx X) F H ρ σ) (e : dChain g g' ma mb mc ρ = some (k, ρ')) (q : ∀ F' H', PoN (gx X) F H ρ σ F' H' ρ' → Q (.bl k) H') : tChain r r' ta tb tc σ H Q := by
  obtain ⟨⟨dx, ρ1⟩, e1, e⟩ := bind_some e
  obtain ⟨⟨dy, ρ2⟩, e2, e⟩ := bind_some e
  obtain ⟨t, e3, e⟩ := bind_some e
  refine ka F H ρ σ dx ρ1 _ R e1 fun v F1 H1 p1 => ?_
  refine kb F1 H1 ρ1 σ dy ρ2 _ p1.rel e2 fun u F2 H2 p2 => ?_
  refine hr F2 H2 v u dx dy t _ p2.rel.sub (RepD.le p2.n.st.le p1.rep) p2.rep e3 fun w F3 H3 pv => ?_
  have p3 := pv.poE p2.rel
  split at e
  · obtain ⟨⟨dz, ρ3⟩, e4, e⟩ := bind_some e
    obtain ⟨t', e5, e⟩ := bind_some e
    refine ⟨true, p3.rep, ?_⟩
    rw [if_pos rfl]
    refine kc F3 H3 ρ2 σ dz ρ3 _ p3.rel e4 fun z F4 H4 p4 => ?_
    refine hr' F4 H4 u z dy dz t' _ p4.rel.sub (RepD.le (p3.st.le.trans p4.n.st.le) p2.rep) p4.rep e5 fun w2 F5 H5 pv2 => ?_
    have p5 := pv2.poE p4.rel
    split at e
    · cases e
      have : w2 = .bl k := p5.rep
      subst this
      exact q F5 H5 ((((p1.n.tr p2.n).tr p3.n).tr p4.n).tr p5.n)
    · cases e
  · cases e
    refine ⟨false, p3.rep, ?_⟩
    rw [if_neg Bool.false_ne_true]
    exact q F3 H3 ((p1.n.tr p2.n).tr p3.n)
  · cases e
theorem se_chain {op op' : CmpOp} {g g' : D → D → Option T} {ma mb mc : Den} (ho : OpD X (compareOp op) g) (ho' : OpD X (compareOp op') g') (ha : SE X a ma) (hb : SE X b mb) (hc : SE X c mc) (hm : lastMarks [op, op'] [b, c] = false) :
    SE X (.Compare a [op, op'] [b, c] pos) (dBV (dChain g g' ma mb mc)) := by
  obtain ⟨r, h1, h2⟩ := ho
  obtain ⟨r', h1', h2'⟩ := ho'
  obtain ⟨ta, pa, ka⟩ := ha.d
  obtain ⟨tb, pb, kb⟩ := hb.d
  obtain ⟨tc, pc, kc⟩ := hc.d
  refine ⟨_, pe_chain h1 h1' pa pb pc hm, fun F H ρ σ t ρ' Q R e q => ?_⟩
  obtain ⟨⟨k, ρ1⟩, e1, e⟩ := bind_some e
  cases e
  exact run_chain h2 h2' ka kb kc F H ρ σ k ρ1 Q R e1 fun F' H' p => q _ F' H' ⟨p.st, p.rel, rfl, fun _ o => nomatch o⟩
theorem st_chain {op op' : CmpOp} {g g' : D → D → Option T} {ma mb mc : Den} (ho : OpD X (compareOp op) g) (ho' : OpD X (compareOp op') g') (ha : SE X a ma) (hb : SE X b mb) (hc : SE X c mc) (hm : lastMarks [op, op'] [b, c] = false) :
    ST X (.Compare a [op, op'] [b, c] pos) (dChain g g' ma mb mc) := by
  obtain ⟨r, h1, h2⟩ := ho
  obtain ⟨r', h1', h2'⟩ := ho'
  obtain ⟨ta, pa, ka⟩ := ha.d
  obtain ⟨tb, pb, kb⟩ := hb.d
  obtain ⟨tc, pc, kc⟩ := hc.d
  exact ⟨_, pt_chain h1 h1' pa pb pc hm, fun F H ρ σ k ρ' Q R e q => run_chain h2 h2' ka kb kc F H ρ σ k ρ' _ R e fun F' H' p => ⟨k, rfl, q F' H' p⟩⟩

/-! ### isinstance -/
def tyOfD : D → Option String
  | .non => some "NoneType"
  | .bl _ => some "bool"
  | .int _ => some "int"
  | .str _ => some "str"
  | .lst _ => some "list"
  | .tup _ => some "tuple"
  | .dct _ _ => some "dict"
  | _ => none
def isiB (a n : String) : Option Bool :=
  if n = "int" then some (decide (a = "int") || decide (a = "bool")) else if n = "bool" then some (decide (a = "bool")) else if n = "str" then some (decide (a = "str")) else if n = "list" then some (decide (a = "list"))
  else if n = "tuple" then some (decide (a = "tuple")) else if n = "dict" then some (decide (a = "dict")) else none
theorem isiB_ok {d : D} {a n : String} {b : Bool} (h : tyOfD d = some a) (e : isiB a n = some b) : kitB a n = some b := by
  have ha : a = "NoneType" ∨ a = "bool" ∨ a = "int" ∨ a = "str" ∨ a = "list" ∨ a = "tuple" ∨ a = "dict" := by
    cases d <;> cases h <;> simp
  unfold isiB at e
  split at e
  · rename_i q; subst q; cases e; rcases ha with q | q | q | q | q | q | q <;> subst q <;> decide +kernel
  split at e
  · rename_i q; subst q; cases e; rcases ha with q | q | q | q | q | q | q <;> subst q <;> decide +kernel
  split at e
  · rename_i q; subst q; cases e; rcases ha with q | q | q | q | q | q | q <;> subst q <;> decide +kernel
  split at e
  · rename_i q; subst q; cases e; rcases ha with q | q | q | q | q | q | q <;> subst q <;> decide +kernel
  split at e
  · rename_i q; subst q; cases e; rcases ha with q | q | q | q | q | q | q <;> subst q <;> decide +kernel
  split at e
  · rename_i q; subst q; cases e; rcases ha with q | q | q | q | q | q | q <;> subst q <;> decide +kernel
  cases e
def isiD : List D → Option T
  | [x, .ty n] => (tyOfD x).bind fun a => (isiB a n).bind fun b => some (.lf (.bl b))
  | _ => none
theorem ty_of {F H : Hp} {d : D} {v : V} {a : String} (s : Sub F H) (r : RepB (gx X) F H d v) (h : tyOfD d = some a) : TyX X.K H v (.type a) := by
  cases d with
  | non => cases h; cases r.fz rfl; exact .base .non
  | bl k => cases h; cases r.fz rfl; exact .base (.bl k)
  | int k => cases h; cases r.fz rfl; exact .base (.int k)
  | str k => cases h; cases r.fz rfl; exact .base (.str k)
  | lst ds => cases h; obtain ⟨p, us, rfl, h1, _⟩ := r.lst s; exact .base (.lst h1)
  | tup ds => cases h; obtain ⟨p, us, o, rfl, h1, _, _⟩ := r.fz rfl; exact .fTuple (s.tup h1)
  | dct ks ds =>
    cases h
    obtain ⟨p, us, rfl, h1, _, _⟩ := r.dct s
    rcases h1 with h1 | ⟨o, h1⟩
    · exact .base (.dK h1)
    · exact .fDict h1
  | _ => cases h
theorem cb_isi : CallB X (.builtin "isinstance") isiD := by
  refine ⟨_, call_isi, fun F H xs ds t Q s r e q => ?_⟩
  unfold isiD at e
  split at e
  · rename_i x n
    obtain ⟨ta, e1, e⟩ := bind_some e
    obtain ⟨k, e2, e⟩ := bind_some e
    cases e
    obtain ⟨v, r0, rfl, rv, v2, r2, rfl, rv2, rfl⟩ := r
    have : v2 = .ty n := rv2.fz rfl
    subst this
    exact ⟨v, .ty n, .type ta, .type n, k, rfl, .ty n, ty_of s rv e1, kit_ty (isiB_ok e1 e2), q _ F H (PV.same s rfl)⟩
  · cases e
/-! ### text.index -/
def wStrIx : WM := WM.of tyS (fun x xs H Q => ∃ a b i rest, x = V.str a ∧ xs = [V.str b] ∧ Builtin.Str.occurrences a b 0 a.length 1 = i :: rest ∧ Q (V.int (i : Nat)) H)
theorem mw_sindex : MW X "index" wStrIx := MW.one PySem.F.plainAttrs_str PySem.F.slot_str_index PySem.F.type_str_index tyS_ok mt_sindex
def indexS (d : D) (ds : List D) : Option T := match d, ds with
  | .str a, [.str b] => match Builtin.Str.occurrences a b 0 a.length 1 with
    | i :: _ => some (.lf (.int (i : Nat)))
    | [] => none
  | _, _ => none
theorem rul_sindex : RulM X wStrIx indexS := by
  intro F0 H0 x d0 s0 r0 d ds t e hk
  unfold indexS at e
  split at e
  · rename_i a b
    split at e
    · rename_i i rest hi
      cases e
      obtain ⟨z, rfl, rfl⟩ := str_base r0 hk
      refine ⟨_, ⟨⟨z, rfl⟩, rfl⟩, fun F H vs Q s rd rs q => ?_⟩
      have ez : V.str z = V.str a := rd.fz rfl
      cases ez
      obtain ⟨v, w, rfl, rv, rfl⟩ := rs
      have : v = .str b := rv
      subst this
      exact ⟨a, b, i, rest, rfl, rfl, hi, q _ F H (PV.same s rfl)⟩
    · cases e
  · cases e
theorem RulM.or {W W' : WM} {g g1 g2 : D → List D → Option T} (h1 : RulM X W g1) (h2 : RulM X W' g2) (h : ∀ d ds t, g d ds = some t → g1 d ds = some t ∨ g2 d ds = some t) : RulM X (WM.or W W') g := by
  intro F0 H0 x d0 s0 r0 d ds t e hk
  rcases h d ds t e with e | e
  · obtain ⟨r, hw, k⟩ := h1 F0 H0 x d0 s0 r0 d ds t e hk
    exact ⟨r, .inl hw, k⟩
  · obtain ⟨r, hw, k⟩ := h2 F0 H0 x d0 s0 r0 d ds t e hk
    exact ⟨r, .inr hw, k⟩
def indexA (d : D) (ds : List D) : Option T := match d with
  | .str _ => indexS d ds
  | _ => indexD d ds
theorem rul_indexA : RulM X (WM.or (wSeq X.K (rIdxK X.K)) wStrIx) indexA := RulM.or rul_index rul_sindex fun d ds t e => by
  unfold indexA at e
  split at e
  · exact .inr e
  · exact .inl e
theorem mw_indexA (hu : X.A.units + 65 < cLine) : MW X "index" (WM.or (wSeq X.K (rIdxK X.K)) wStrIx) := (mw_index hu).or mw_sindex
end VI

set_option Elab.async false
set_option linter.all false
set_option maxRecDepth 100000
set_option maxHeartbeats 4000000
/-! VY: sorting plain data, empty tuples among them too (the machine's side) -/
namespace VI
open PySem PySem.Spec L2 PySem.W
open PyProof.Rows hiding St
section
variable {prog : Program} {w : World} {A : Around} {s : Shared} {E : Value → Shared → Prop}
open PySem.SeqAt in
theorem call_tuple_lt {Q : Value → Shared → Prop} {l b : Addr} {items items2 : Array Value} {e r : Nat → Bool} (hl : s.heap.IsTuple l items) (hb : s.heap.IsTuple b items2)
    (he : ∀ j (h1 : j < items.size) (h2 : j < items2.size), EqAt A.in1 s items[j] items2[j] (e j)) (hr : ∀ j (h1 : j < items.size) (h2 : j < items2.size), e j = false → RcLt A.in1 s items[j] items2[j] (r j))
    (h : Q (.bool (firstLt e r (decide (items.size < items2.size)) (List.range (min items.size items2.size)))) s) : wpAny (model prog w) A (call (.builtin "tuple.__lt__") [.ref l, .ref b]) Q E s := by
  obtain ⟨⟨cls, dd, data, sl⟩, ho, hc, n, hd⟩ := id hl
  obtain ⟨⟨cls2, dd2, data2, sl2⟩, ho2, hc2, n2, hd2⟩ := id hb
  simp only at hc hd hc2 hd2
  subst hc hd hc2 hd2
  exact call_meets PySem.F.slot_tuple_lt ⟨_, ho, rfl⟩ PySem.F.entry_tuple_lt (PySem.F.args_tuple_lt_2 _ _) (tuple_ltAt l b items items2 n n2 dd dd2 sl sl2 e r) ⟨ho, ho2, he, hr, h⟩
open PySem.SeqAt in
theorem oneLt_tuple {xs ys : List PyData} {a b : Value} {as bs : List Addr} {Q : Bool → Shared → Prop} (ra : Reads s.heap a (.tuple xs) as) (rb : Reads s.heap b (.tuple ys) bs) (h : alike (.tuple xs) (.tuple ys) = true)
    (hu : A.units + min (PyData.tuple xs).depth (PyData.tuple ys).depth < cLine) (hq : Q (dataLt (.tuple xs) (.tuple ys)) s) : wpAny (model prog w) A (oneLt' true a b) Q E s := by
  have hal : alikeAll xs ys = true := by simpa [alike] using h
  cases ra with
  | @tuple l o vs n _ as₁ h1 h2 h3 h4 =>
    cases rb with
    | @tuple l' o' vs' n' _ bs₁ k1 k2 k3 k4 =>
      have n1 : vs.size = xs.length := by simpa using ReadsAll.length _ _ _ h4
      have n2 : vs'.size = ys.length := by simpa using ReadsAll.length _ _ _ k4
      rw [dataLt_tuple, ← firstLt_toks xs ys hal, ← n1, ← n2] at hq
      rw [oneLt'_eq]
      simp only [if_true]
      refine wpAny_bind (wpAny_cRoomFor (room_here hu) ?_)
      refine wpAny_bind (wpAny_callSpecialIfBound?_slot (T := "tuple") ⟨_, h1, h2⟩ PySem.F.slot_tuple_lt (call_tuple_lt (e := pairEq xs ys) (r := fun j => dataLt (xs.getD j .none) (ys.getD j .none)) ⟨_, h1, h2, _, h3⟩ ⟨_, k1, k2, _, k3⟩ (fun j j1 j2 => ?_) (fun j j1 j2 hj => ?_) ?_))
      · have := eqAt_alikeAll xs ys A.in1 s vs.toList vs'.toList _ _ h4 k4 hal (room_in hu) j (by simpa using j1) (by simpa using j2)
        simpa using this
      · have := rcLt_alikeAll xs ys A.in1 s vs.toList vs'.toList _ _ h4 k4 hal (room_in hu) j (by simpa using j1) (by simpa using j2) hj
        simpa using this
      · exact wpAny_truthy_bool hq
theorem mapM_each {α β : Type} {f : α → Sem β} (g : α → β) : ∀ (l : List α) {Q : List β → Shared → Prop}, (∀ v ∈ l, ∀ (Q' : β → Shared → Prop), Q' (g v) s → wpAny (model prog w) A (f v) Q' E s) → Q (l.map g) s → wpAny (model prog w) A (l.mapM f) Q E s
  | [], _, _, h => by rw [List.mapM_nil]; exact wpAny_pure h
  | x :: l, Q, hf, h => by
    rw [List.mapM_cons]
    exact wpAny_bind (hf x (.head _) _ (wpAny_bind (mapM_each g l (Q := fun bs s' => wpAny (model prog w) A (pure (g x :: bs)) Q E s') (fun v hv => hf v (.tail _ hv)) (wpAny_pure h))))
/-- the first item of the tuple that v is -/
def fstOf (h : Heap) (v : Value) : Option Value := match v with
  | .ref a => match h.get? a with
    | some ⟨_, _, .seq its _, _⟩ => its[0]?
    | _ => none
  | _ => none
theorem fstOf_tup {h : Heap} {v : Value} {xs : List PyData} {as : List Addr} (r : Reads h v (.tuple xs) as) : (fstOf h v).isSome = !xs.isEmpty := by
  cases r with
  | @tuple a o vs n _ _ h1 h2 h3 h4 =>
    obtain ⟨oc, od, dt, sl⟩ := o
    simp only at h3
    subst h3
    have n1 : vs.size = xs.length := by simpa using SeqAt.ReadsAll.length _ _ _ h4
    show (match h.get? a with
      | some ⟨_, _, .seq its _, _⟩ => its[0]?
      | _ => none).isSome = _
    rw [h1]
    cases xs with
    | nil =>
      have : vs.size = 0 := n1
      simp [this]
    | cons x xs =>
      have : 0 < vs.size := by rw [n1]; exact Nat.succ_pos _
      simp [this]
theorem first_run {v : Value} {xs : List PyData} {as : List Addr} {Q : Option Value → Shared → Prop} (r : Reads s.heap v (.tuple xs) as) (h : Q (fstOf s.heap v) s) : wpAny (model prog w) A (firstOfTuple' v) Q E s := by
  rw [kas_first_eq]
  refine wpAny_bind ((looks_reads r).here ?_)
  rw [if_neg (by show ¬ ((Value.type "tuple" != Value.type "tuple") = true); decide)]
  cases r with
  | @tuple a o vs n _ _ h1 h2 h3 h4 =>
    refine wpAny_bind (listItems_at h1 h3 ?_)
    obtain ⟨oc, od, dt, sl⟩ := o
    simp only at h3
    subst h3
    have e : fstOf s.heap (.ref a) = vs[0]? := by
      show (match s.heap.get? a with
        | some ⟨_, _, .seq its _, _⟩ => its[0]?
        | _ => none) = _
      rw [h1]
    rw [e] at h
    exact wpAny_pure h
/-- tuples, an empty one among them -/
theorem sorts_empty {vs : List Value} {ds : List PyData} (e : EachIs (fun v d => ∃ as, Reads s.heap v d as) vs ds) (hal : AllAlike ds) (ht : ∀ d, d ∈ ds → ∃ xs, d = .tuple xs) (h0 : PyData.tuple [] ∈ ds) (hu : ∀ d, d ∈ ds → A.units + d.depth < cLine) : SortsAt prog w A s (dataKind s.heap ds) vs := by
  have room : ∀ {d d' : PyData}, d ∈ ds → A.units + min d.depth d'.depth < cLine := fun {d d'} hd => Nat.lt_of_le_of_lt (Nat.add_le_add_left (Nat.min_le_left _ _) _) (hu d hd)
  have tup : ∀ v ∈ vs, ∃ xs as, PyData.tuple xs ∈ ds ∧ Reads s.heap v (.tuple xs) as := fun v hv => by
    obtain ⟨d, hd, as, r⟩ := e.left v hv
    obtain ⟨xs, rfl⟩ := ht d hd
    exact ⟨xs, as, hd, r⟩
  have hasE : ∃ v ∈ vs, (fstOf s.heap v).isSome = false := by
    have : ∀ {vs : List Value} {ds : List PyData}, EachIs (fun v d => ∃ as, Reads s.heap v d as) vs ds → PyData.tuple [] ∈ ds → ∃ v ∈ vs, (fstOf s.heap v).isSome = false := by
      intro vs ds e
      induction e with
      | nil => intro h; cases h
      | cons h t ih =>
        intro hm
        rcases List.mem_cons.mp hm with q | q
        · obtain ⟨as, r⟩ := h
          rw [← q] at r
          exact ⟨_, List.mem_cons_self, by rw [fstOf_tup r]; rfl⟩
        · obtain ⟨v, hv, q⟩ := ih q
          exact ⟨v, List.mem_cons_of_mem _ hv, q⟩
    exact this e h0
  refine ⟨fun v hv => ?_, ?_⟩
  · obtain ⟨d, hd, as, r⟩ := e.left v hv
    exact ⟨_, dataKind_some hal hd r⟩
  · -- the kind
    have kind : ∀ (kd : SortKind), kd = (if (fstOf s.heap (vs.headD .none)).isSome = true then general' else oneType') → 2 ≤ vs.length → ∀ (E : Value → Shared → Prop) {Q : SortKind → Shared → Prop}, Q kd s → wpAny (model prog w) A (keyKind' vs.toArray) Q E s := by
      intro kd hkd h2 E Q hq
      rw [keyKind'_eq, List.mapM_toArray, map_eq_pure_bind]
      refine wpAny_bind (wpAny_bind (mapM_each (fstOf s.heap) _ (fun v hv Q' hq => ?_) (wpAny_pure ?_)))
      · obtain ⟨xs, as, _, r⟩ := tup v hv
        exact first_run r hq
      · have hno : ¬ (((vs.map (fstOf s.heap)).toArray.all fun x => x.isSome) = true) := by
          obtain ⟨v, hv, q⟩ := hasE
          simp only [List.all_toArray, List.all_map, List.all_eq_true]
          intro hall
          have := hall v hv
          simp only [Function.comp] at this
          rw [q] at this
          cases this
        rw [if_neg hno]
        obtain ⟨v₁, rest, rfl⟩ : ∃ v₁ rest, vs = v₁ :: rest := by
          match vs, h2 with
          | [], h2 => simp at h2
          | v :: r, _ => exact ⟨v, r, rfl⟩
        have h1 : ((List.map (fstOf s.heap) (v₁ :: rest)).toArray[0]?.bind id) = fstOf s.heap v₁ := by simp
        rw [h1]
        by_cases hf : (fstOf s.heap v₁).isSome = true
        · rw [if_pos hf]
          rw [show kd = general' from by rw [hkd]; exact if_pos hf] at hq
          exact wpAny_pure hq
        · rw [if_neg hf]
          rw [show kd = oneType' from by rw [hkd]; exact if_neg hf] at hq
          rw [oneTypeOnly'_eq, List.mapM_toArray, map_eq_pure_bind]
          refine wpAny_bind (wpAny_bind (wpAny_bind (mapM_each (fun _ => Value.type "tuple") _ (fun v hv Q' hq => ?_) (wpAny_pure ?_))))
          · obtain ⟨xs, as, _, r⟩ := tup v hv
            exact (looks_reads r).here hq
          · have hall : ((List.map (fun _ => Value.type "tuple") (v₁ :: rest)).toArray.all fun x => x == Value.type "tuple") = true := by
              simp only [List.all_toArray, List.all_map, List.all_eq_true]
              intro _ _
              rfl
            have h0 : (List.map (fun _ => Value.type "tuple") (v₁ :: rest)).toArray[0]? = some (Value.type "tuple") := by simp
            rw [h0]
            simp only [hall, if_true]
            exact wpAny_pure (wpAny_pure hq)
    by_cases hf : (fstOf s.heap (vs.headD .none)).isSome = true
    · refine ⟨general', fun E x y a b Q ha hb hq => ?_, kind _ (by rw [if_pos hf])⟩
      obtain ⟨d, as, hd, ra, rfl⟩ := dataKind_inv ha
      obtain ⟨d', as', hd', rb, rfl⟩ := dataKind_inv hb
      show wpAny (model prog w) A (oneLt' false x y) Q E s
      exact oneLt_alike (fun h => nomatch h) ra rb (hal d hd d' hd') (by obtain ⟨xs, rfl⟩ := ht d hd; exact fun h => nomatch h) (room hd) hq
    · refine ⟨oneType', fun E x y a b Q ha hb hq => ?_, kind _ (by rw [if_neg hf])⟩
      obtain ⟨d, as, hd, ra, rfl⟩ := dataKind_inv ha
      obtain ⟨d', as', hd', rb, rfl⟩ := dataKind_inv hb
      obtain ⟨xs, rfl⟩ := ht d hd
      obtain ⟨ys, rfl⟩ := ht d' hd'
      rw [keyLt'_oneType]
      exact oneLt_tuple ra rb (hal _ hd _ hd') (room hd) hq
/-- alike data that are no None can be sorted -/
theorem sorts_alike {vs : List Value} {ds : List PyData} (e : EachIs (fun v d => ∃ as, Reads s.heap v d as) vs ds) (hal : AllAlike ds) (hn : ∀ d, d ∈ ds → d ≠ .none) (hu : ∀ d, d ∈ ds → A.units + d.depth < cLine) : SortsAt prog w A s (dataKind s.heap ds) vs := by
  cases ds with
  | nil => exact SortsAt.data e hal (.inl fun d hd => nomatch hd) hu
  | cons d0 ds0 =>
    by_cases ht : ∃ xs, d0 = .tuple xs
    · have all : ∀ d, d ∈ d0 :: ds0 → ∃ xs, d = .tuple xs := by
        intro d hd
        have q := hal d hd d0 List.mem_cons_self
        obtain ⟨xs, rfl⟩ := ht
        cases d with
        | tuple ys => exact ⟨ys, rfl⟩
        | _ => exact absurd q (by simp [alike])
      by_cases h0 : PyData.tuple [] ∈ d0 :: ds0
      · exact sorts_empty e hal all h0 hu
      · refine SortsAt.data e hal (.inl fun d hd => ?_) hu
        obtain ⟨xs, rfl⟩ := all d hd
        cases xs with
        | nil => exact absurd hd h0
        | cons x r => exact ⟨x, r, rfl⟩
    · refine SortsAt.data e hal (.inr fun d hd => ⟨hn d hd, fun xs hx => ?_⟩) hu
      subst hx
      have q := hal _ hd d0 List.mem_cons_self
      cases d0 with
      | tuple ys => exact ht ⟨ys, rfl⟩
      | _ => exact absurd q (by simp [alike])
end
end VI

set_option Elab.async false
set_option linter.all false
set_option maxRecDepth 100000
set_option maxHeartbeats 4000000
/-! VZ: sorted of plain data -/
namespace VI
open PySem PySem.Spec L2 PySem.W
open PyProof.Rows hiding St
/-- the heap has grown -/
def Grown (h h' : Heap) : Prop := (∀ b o, h.get? b = some o → h'.get? b = some o) ∧ h.objs.size ≤ h'.objs.size
section
variable {prog : Program} {w : World} {A : Around} {s : Shared} {E : Value → Shared → Prop}
theorem collect_seq {Q : List Value → Shared → Prop} (it : Addr) {T : String} {o : Obj} {items : Array Value} {n : Nat} (hT : T = "list" ∨ T = "tuple")
    (ho : s.heap.get? it = some o) (hc : o.cls = .type T) (hd : o.data = .seq items n)
    (hQ : ∀ h', Grown s.heap h' → Q items.toList { s with heap := h' }) (hsz : items.size ≤ sizeLine) :
    wpAny (model prog w) A (collect (.ref it)) Q E s := by
  unfold collect
  refine wpAny_bind (wpAny_runValue (codeAny_builtin PySem.F.entry_proto_collect ?_))
  rw [Around.under_plainId PySem.F.plain_proto_collect _]
  show wpAny _ A.in1 (newList [] >>= fun l => again (.builtin "list.__iadd__" ⟨[l, .ref it], []⟩)) _ _ s
  refine wpAny_bind (wpAny_newObj_type ?_)
  refine wpAny_pure ⟨plainId_quiet PySem.F.plain_list_iadd _, codeAny_builtin PySem.F.entry_list_iadd ?_⟩
  rw [Around.under_plainId PySem.F.plain_list_iadd _]
  show wpAny _ A.in1 (Builtin.List.listExtendWith (.ref s.heap.objs.size) (.ref it) (.ref s.heap.objs.size)) _ _ _
  have hS : (s.heap.push { cls := .type "list", data := .seq ([] : List Value).toArray }).get? s.heap.objs.size = some { cls := .type "list", data := .seq #[] 0 } := Heap.get?_push_size _ rfl
  have hS₂ := Heap.get?_update_self (Obj.mapSeq (· ++ items)) hS rfl
  have fin' : wpAny (model prog w) A (match Value.ref s.heap.objs.size with
      | Value.ref a => do
        match (← load a).data with
          | Data.seq xs _ => pure xs.toList
          | _ => unsupported "internal:collect"
      | _ => unsupported "internal:collect") Q E { s with heap := (s.heap.push { cls := .type "list", data := .seq ([] : List Value).toArray }).update s.heap.objs.size (Obj.mapSeq (· ++ items)) } := by
    show wpAny _ A (load s.heap.objs.size >>= _) _ _ _
    refine wpAny_bind (wpAny_load hS₂ ?_)
    refine wpAny_pure ?_
    have e : ((#[] : Array Value) ++ items).toList = items.toList := by simp
    show Q ((#[] : Array Value) ++ items).toList _
    rw [e]
    refine hQ _ ⟨fun b o' hb => ?_, ?_⟩
    · exact (Heap.get?_update_other _ _ (Nat.ne_of_gt (Heap.lt_size hb))).trans (Heap.get?_push_of_some _ hb)
    · rw [Heap.size_update, Heap.size_push]; exact Nat.le_succ _
  refine wpAny_mono (wpAny_extend_seq (hsz := hsz) (A := A) (R := fun r s' => r = .ok (.ret (.ref s.heap.objs.size)) ∧ s' = { s with heap := (s.heap.push { cls := .type "list", data := .seq ([] : List Value).toArray }).update s.heap.objs.size (Obj.mapSeq (· ++ items)) })
    (s := { s with heap := s.heap.push { cls := .type "list", data := .seq ([] : List Value).toArray } }) _ it _ 0 hT hS (Heap.get?_push_of_some _ ho) hc hd ⟨rfl, rfl⟩) (fun fin s' h => ?_) (fun e s' h => ?_)
  · cases fin with
    | done f =>
      obtain ⟨e, rfl⟩ := h
      cases e
      exact fin'
    | again c' => exact ⟨h.1, codeAny_mono h.2 fun r s'' hr => by obtain ⟨rfl, rfl⟩ := hr; exact fin'⟩
  · exact absurd h.1 (by simp)
theorem sorted_gen {β : Type} {v : Value} {vs : List Value} {bs : List β} {enc : β → PyData} {R : Value → β → Prop} {Q : Value → Shared → Prop}
    (hcol : ∀ (E' : Value → Shared → Prop) (C : List Value → Shared → Prop), (∀ h' tk, Grown s.heap h' → C vs { s with heap := h', toks := tk }) → wpAny (model prog w) A.in1 (collect v) C E' s)
    (e : EachIs R vs bs) (er : EachIs (fun v b => ∃ as, Reads s.heap v (enc b) as) vs bs) (hal : AllAlike (bs.map enc)) (hn : ∀ d ∈ bs.map enc, d ≠ .none) (hL : vs.length ≤ sizeLine) (hu : ∀ b ∈ bs, A.units + 2 + (enc b).depth < cLine)
    (h : ∀ (out : List Value) (h' : Heap) (tk : Nat) (p ep : Nat), (∀ b o, s.heap.get? b = some o → h'.get? b = some o) → s.heap.objs.size ≤ p → h'.get? p = some (seqObj "list" out.toArray ep) → out.length = vs.length → EachIs R out (bs.mergeSort (dataLe false enc)) → Q (.ref p) { s with heap := h', toks := tk }) :
    wpAny (model prog w) A (call (.builtin "sorted") [v]) Q E s := by
  refine Calls.call_function_entry kind_sorted plain_sorted entry_sorted (args_sorted1 _) ?_
  unfold Builtin.«sorted»
  refine wpAny_bind (m := checkCount "sorted" 1 1 _) (wpAny_pure ?_)
  refine wpAny_bind (hcol _ _ fun h1 tk hk => ?_)
  refine wpAny_bind (wpAny_newList ?_ hL)
  have ho : (h1.push (seqObj "list" vs.toArray 0)).get? h1.objs.size = some (seqObj "list" vs.toArray 0) := Heap.get?_push_size _ rfl
  have er' : EachIs (fun v b => ∃ as, Reads (sortingHeap (h1.push (seqObj "list" vs.toArray 0)) h1.objs.size vs) v (enc b) as) vs bs := er.mono fun _ _ ⟨as, r⟩ => ⟨as, PyProof.Rows.Reads.keeps (fun b o q => by
    have q1 := hk.1 _ _ q
    exact sortingHeap_old (Nat.ne_of_lt (Heap.lt_size q1)) (Heap.get?_push_of_some _ q1)) r⟩
  have S : SortsAt prog w A.in1.in1 { s with heap := sortingHeap (h1.push (seqObj "list" vs.toArray 0)) h1.objs.size vs, toks := tk } (dataKind (sortingHeap (h1.push (seqObj "list" vs.toArray 0)) h1.objs.size vs) (bs.map enc)) vs :=
    sorts_alike (s := { s with heap := sortingHeap (h1.push (seqObj "list" vs.toArray 0)) h1.objs.size vs, toks := tk }) (each_map (R := fun v d => ∃ as, Reads (sortingHeap (h1.push (seqObj "list" vs.toArray 0)) h1.objs.size vs) v d as) enc er') hal hn (bound_map hu)
  refine wpAny_bind (wpAny_holding (wpAny_call_entry slot_list_sort ⟨_, ho, rfl⟩ entry_list_sort ?body (args_list_sort _)))
  case body =>
    show wpAny (model prog w) A.in1.in1 (Builtin.«list.sort» ⟨[.ref h1.objs.size], []⟩) _ _ _
    refine list_sort_vals (s := { s with heap := h1.push (seqObj "list" vs.toArray 0), toks := tk }) ho S hL ⟨_, rfl, wpAny_pure ⟨_, rfl, ?_⟩⟩
    obtain ⟨ep, he⟩ := sortedHeap_at (out := (sortVals (dataKind (sortingHeap (h1.push (seqObj "list" vs.toArray 0)) h1.objs.size vs) (bs.map enc)) false vs vs).toArray) ho
    refine h _ _ tk h1.objs.size ep (fun b o q => ?_) hk.2 he (by rw [sortVals_length false rfl]) (sortVals_data false e er' hal)
    have q1 := hk.1 _ _ q
    have hb := Heap.lt_size q1
    rw [sortedHeap_old (Nat.ne_of_lt hb) (by rw [Heap.size_push]; exact Nat.lt_succ_of_lt hb)]
    exact Heap.get?_push_of_some _ q1
end
variable {X : Cx}
def sortP {β : Type} (k : β → PyData) (bs : List β) : List β := bs.mergeSort (dataLe false k)
def rSortP (K : PySem.W.Frag) : List V → Hp → VK → Prop := fun xs H Q => ∃ (p : Addr) (us : List V) (ps : List PyData) (k : Bool), xs = [.ref p] ∧ Sq K k H p us ∧ DpAll K H us ps ∧ AllAlike ps ∧ (∀ d ∈ ps, d ≠ .none) ∧ (∀ d ∈ ps, d.depth ≤ 62) ∧
  ∀ q, H q = none → Q (.ref q) (upd H q (.lst ((sortP (·.2) (us.zip ps)).map (·.1))))
theorem each_zip : ∀ {us : List V} {vs : List Value} {ps : List PyData}, Vals us vs → us.length = ps.length → EachIs (fun v (b : V × PyData) => RelV b.1 v) vs (us.zip ps)
  | _, _, [], .nil, _ => .nil
  | _, _, _ :: _, .nil, h => by cases h
  | _, _, [], .cons _ _, h => by cases h
  | _, _, p :: ps, .cons r t, h => .cons r (each_zip t (by simpa using h))
theorem each_zip2 {h : Heap} : ∀ {us : List V} {vs : List Value} {ps : List PyData} {as : List Addr}, ReadsAll h vs ps as → us.length = ps.length → EachIs (fun v (b : V × PyData) => ∃ as, Reads h v b.2 as) vs (us.zip ps)
  | [], _, [], _, .nil, _ => .nil
  | _ :: _, _, [], _, .nil, h => by cases h
  | [], _, _ :: _, _, .cons _ _, h => by cases h
  | u :: us, _, p :: ps, _, .cons r t, h => .cons ⟨_, r⟩ (each_zip2 t (by simpa using h))
theorem each_vals : ∀ {out : List Value} {bs : List (V × PyData)}, EachIs (fun v (b : V × PyData) => RelV b.1 v) out bs → Vals (bs.map (·.1)) out
  | _, _, .nil => .nil
  | _, _, .cons r t => .cons r (each_vals t)
theorem snd_zip : ∀ {us : List V} {ps : List PyData}, us.length = ps.length → (us.zip ps).map (·.2) = ps
  | [], [], _ => rfl
  | [], _ :: _, h => by cases h
  | _ :: _, [], h => by cases h
  | u :: us, p :: ps, h => by simp only [List.zip_cons_cons, List.map_cons]; rw [snd_zip (by simpa using h)]
theorem Inv.sqx {pins : List (Addr × Obj)} {σ : St} {H : Hp} {s : Shared} {b : Bool} {a : Addr} {xs : List V} (I : Inv X pins σ H s) (h : Sq X.K b H a xs) : ∃ (its : List Value) (o : Obj) (n : Nat), Vals xs its ∧ s.heap.get? a = some o ∧ (o.cls = .type "list" ∨ o.cls = .type "tuple") ∧ o.data = .seq its.toArray n ∧ xs.length ≤ sizeLine := by
  cases b with
  | true =>
    obtain ⟨its, rv, ⟨o, n, ho, hc, _, hd⟩, hz⟩ := I.list h
    exact ⟨its, o, n, rv, ho, .inl hc, hd, hz⟩
  | false =>
    obtain ⟨its, rv, ⟨o, ho, hc, n, hd⟩, hz⟩ := I.tuple h
    exact ⟨its, o, n, rv, ho, .inr hc, hd, hz⟩
theorem dpAll_len {K : PySem.W.Frag} {H : Hp} : ∀ {us : List V} {ps : List PyData}, DpAll K H us ps → us.length = ps.length
  | _, _, .nil => rfl
  | _, _, .cons _ t => congrArg Nat.succ (dpAll_len t)
theorem cr_sortP (hu : X.A.units + 65 < cLine) : CallR X (.builtin "sorted") (rSortP X.K) := by
  intro pins s σ H xs us Q I r h
  obtain ⟨p, vs, ps, k, rfl, hq, hd, hal, hn, hdp, q⟩ := h
  rw [Vals.ref1 r]
  obtain ⟨its, o, n, rv, ho, hc, hdt, hz⟩ := Inv.sqx I hq
  obtain ⟨as, ra⟩ := Dp.readsAll I ps _ its hd rv
  have hl := dpAll_len hd
  have hvl := rv.length
  have es : (vs.zip ps).map (fun b : V × PyData => b.2) = ps := snd_zip hl
  refine sorted_gen (s := s) (vs := its) (bs := vs.zip ps) (enc := fun b => b.2) (R := fun v b => RelV b.1 v) (fun E' C hC => ?_) (each_zip rv hl) (each_zip2 ra hl) (by rw [es]; exact hal) (by rw [es]; exact hn) (by omega) (fun b hb => ?_) fun out h' tk q' ep hk hp ho' hlen he => ?_
  · have hz' : its.toArray.size ≤ sizeLine := by rw [List.size_toArray]; omega
    rcases hc with hc | hc
    · exact collect_seq p (.inl rfl) ho hc hdt (fun h' g => hC h' s.toks g) hz'
    · exact collect_seq p (.inr rfl) ho hc hdt (fun h' g => hC h' s.toks g) hz'
  · have := hdp b.2 (List.of_mem_zip hb).2
    omega
  · have rv' := each_vals he
    have hl2 := rv'.length
    refine ⟨.ref q', upd H q' (.lst _), I.laid (t' := tk) (fun b ob e => hk b ob e) hp ?_, rfl, q _ (I.hok.fresh hp)⟩
    refine ⟨?_, out, ep, rv', ho'⟩
    show (List.map (fun x => x.1) ((vs.zip ps).mergeSort (dataLe false fun b => b.2))).length ≤ sizeLine
    rw [hl2, hlen]; omega
/-! ### by data -/
def sortL (ds : List D) : List D := sortP py ds
def canSort (ds : List D) : Bool := ds.all (sh 62) && (ds.all fun a => ds.all fun b => alike (py a) (py b)) && ds.all fun a => match a with
  | .non => false
  | _ => true
theorem sort_zip {ds : List D} {us : List V} (hl : us.length = ds.length) : sortP (·.2) (us.zip (pys ds)) = (sortP (fun b : V × D => py b.2) (us.zip ds)).map fun b => (b.1, py b.2) := by
  unfold sortP
  have e : us.zip (pys ds) = (us.zip ds).map fun b => (b.1, py b.2) := by
    rw [pys_map]
    clear hl
    induction us generalizing ds with
    | nil => rfl
    | cons u us ih =>
      cases ds with
      | nil => rfl
      | cons d ds => simp only [List.map_cons, List.zip_cons_cons]; rw [ih]
  rw [e]
  rw [List.map_mergeSort (s := dataLe false fun b : V × PyData => b.2)]
  intro a _ b _
  rfl
theorem sort_snd {ds : List D} {us : List V} (hl : us.length = ds.length) : (sortP (fun b : V × D => py b.2) (us.zip ds)).map (·.2) = sortL ds := by
  unfold sortL sortP
  rw [List.map_mergeSort (s := dataLe false py)]
  · congr 1
    induction us generalizing ds with
    | nil => cases ds with
      | nil => rfl
      | cons _ _ => cases hl
    | cons u us ih =>
      cases ds with
      | nil => cases hl
      | cons d ds => simp only [List.zip_cons_cons, List.map_cons]; rw [ih (by simpa using hl)]
  · intro a _ b _
    rfl
theorem rep_zip {G : Gx} {F : Hp} : ∀ {ds : List D} {us : List V}, RepDs G F ds us → ∀ b ∈ us.zip ds, RepD G F b.2 b.1
  | [], us, r => by cases r; intro b h; simp at h
  | d :: ds, us, ⟨u, w, e, r1, r2⟩ => by
    subst e
    intro b h
    simp only [List.zip_cons_cons, List.mem_cons] at h
    rcases h with rfl | h
    · exact r1
    · exact rep_zip r2 b h
theorem zip_rep {G : Gx} {F : Hp} : ∀ {bs : List (V × D)}, (∀ b ∈ bs, RepD G F b.2 b.1) → RepDs G F (bs.map (·.2)) (bs.map (·.1))
  | [], _ => rfl
  | b :: bs, h => ⟨_, _, rfl, h b List.mem_cons_self, zip_rep fun c hc => h c (List.mem_cons_of_mem _ hc)⟩
def sortedD (d : D) : Option T := (seqD d).bind fun ds => if canSort ds = true then some (.lst (sortL ds)) else none
theorem seq_repB {F H : Hp} {d : D} {v : V} {ds : List D} (s : Sub F H) (r : RepB (gx X) F H d v) (h : seqD d = some ds) : ∃ (p : Addr) (us : List V) (k : Bool), v = .ref p ∧ RepDs (gx X) F ds us ∧ Sq X.K k H p us := by
  cases d with
  | lst xs => cases h; obtain ⟨p, us, rfl, h1, r1⟩ := r.lst s; exact ⟨p, us, true, rfl, r1, SqL.of h1⟩
  | tup xs => cases h; obtain ⟨p, us, o, rfl, h1, _, r1⟩ := r.fz rfl; exact ⟨p, us, false, rfl, r1, s.rdT h1 _⟩
  | scr ns => cases h; obtain ⟨p, rfl, h1⟩ := r.fz rfl; exact ⟨p, _, true, rfl, RepDs.ints, s.sqL h1⟩
  | _ => cases h
theorem cb_sorted (hu : X.A.units + 65 < cLine) : CallB X (.builtin "sorted") (on1 sortedD) := by
  refine ⟨_, cr_sortP hu, fun F H xs ds t Q s r e q => ?_⟩
  obtain ⟨d, v, rfl, rfl, rd, e⟩ := on1_some e r
  obtain ⟨ds, e1, e⟩ := bind_some e
  obtain ⟨hc, e⟩ := ite_some e
  cases e
  unfold canSort at hc
  simp only [Bool.and_eq_true] at hc
  obtain ⟨⟨h1, h2⟩, h3⟩ := hc
  obtain ⟨p, us, k, rfl, rs, hq⟩ := seq_repB s rd e1
  have hl := rs.length
  refine ⟨p, us, pys ds, k, rfl, hq, dps_of (G := gx X) s h1 rs, ?_, ?_, ?_, fun q' hq' => ?_⟩
  · rw [pys_map]
    intro a ha b hb
    obtain ⟨a', ha', rfl⟩ := List.mem_map.mp ha
    obtain ⟨b', hb', rfl⟩ := List.mem_map.mp hb
    exact List.all_eq_true.mp (List.all_eq_true.mp h2 a' ha') b' hb'
  · rw [pys_map]
    intro a ha
    obtain ⟨a', ha', rfl⟩ := List.mem_map.mp ha
    have := List.all_eq_true.mp h3 a' ha'
    cases a' <;> first | (simp [py]; done) | cases this
  · rw [pys_map]
    intro a ha
    obtain ⟨a', ha', rfl⟩ := List.mem_map.mp ha
    exact (sh_py 62 a' (List.all_eq_true.mp h1 a' ha')).2
  · rw [sort_zip (by omega)]
    rw [List.map_map]
    have ef : ((fun b : V × PyData => b.1) ∘ fun b : V × D => (b.1, py b.2)) = fun b : V × D => b.1 := rfl
    rw [ef]
    have rr : RepDs (gx X) F (sortL ds) ((sortP (fun b : V × D => py b.2) (us.zip ds)).map (·.1)) := by
      rw [← sort_snd (us := us) (by omega)]
      refine zip_rep fun b hb => rep_zip rs b ?_
      exact (List.mergeSort_perm _ _).mem_iff.mp hb
    exact q _ _ _ (PV.lst s rr hq')
end VI

set_option Elab.async false
set_option linter.all false
set_option maxRecDepth 100000
set_option maxHeartbeats 4000000
/-! VAA: dict displays, len(set(ints)) -/
namespace VI
open PySem PySem.Spec L2
open PyProof.Rows hiding St
variable {X : Cx} {a b c e : Expr} {es : List Expr} {pos : Pos} {A : Nat → Bool}

/-! ### {k: v, ..} -/
abbrev DenP := En → Option (List (D × D) × En)
def RepP (G : Gx) (F : Hp) : List (D × D) → List (V × V) → Prop
  | [], ps => ps = []
  | d :: ds, ps => ∃ u r, ps = u :: r ∧ RepD G F d.1 u.1 ∧ RepD G F d.2 u.2 ∧ RepP G F ds r
theorem RepP.le {G : Gx} {F F' : Hp} (s : Le F F') : ∀ {ds : List (D × D)} {ps : List (V × V)}, RepP G F ds ps → RepP G F' ds ps
  | [], _, h => h
  | _ :: _, _, ⟨u, r, e, h1, h2, h3⟩ => ⟨u, r, e, RepD.le s h1, RepD.le s h2, RepP.le s h3⟩
def SPP (X : Cx) (pos : Pos) (keys : List (Option Expr)) (values : List Expr) (m : DenP) : Prop := ∃ trs, PPs X pos keys values trs ∧ ∀ (F H : Hp) (ρ : En) (σ : St) (ds : List (D × D)) (ρ' : En) (Q : List (V × V) → Hp → Prop), Rel (gx X) F H ρ σ → m ρ = some (ds, ρ') →
  (∀ ps F' H', PoN (gx X) F H ρ σ F' H' ρ' → RepP (gx X) F' ds ps → Q ps H') → tPairs trs σ H Q
def dNilP : DenP := fun ρ => some ([], ρ)
def dConsP (mk mv : Den) (r : DenP) : DenP := fun ρ => (dD mk ρ).bind fun p => (dD mv p.2).bind fun q => (r q.2).bind fun z => some ((p.1, q.1) :: z.1, z.2)
theorem spp_nil : SPP X pos [] [] dNilP := ⟨_, pps_nil, fun F H ρ σ ds ρ' Q R e q => by cases e; exact q [] F H (.refl R) rfl⟩
theorem spp_cons {k v : Expr} {ks : List (Option Expr)} {vs : List Expr} {mk mv : Den} {r : DenP} (hk : SE X k mk) (hv : SE X v mv) (hr : SPP X pos ks vs r) : SPP X pos (some k :: ks) (v :: vs) (dConsP mk mv r) := by
  obtain ⟨tk, pk, kk⟩ := hk.d
  obtain ⟨tv, pv, kv⟩ := hv.d
  obtain ⟨trs, pr, kr⟩ := hr
  refine ⟨_, pps_cons pk pv pr, fun F H ρ σ ds ρ' Q R e q => ?_⟩
  obtain ⟨⟨d, ρ1⟩, e1, e⟩ := bind_some e
  obtain ⟨⟨f, ρ2⟩, e2, e⟩ := bind_some e
  obtain ⟨⟨zs, ρ3⟩, e3, e⟩ := bind_some e
  cases e
  refine kk F H ρ σ d ρ1 _ R e1 fun x F1 H1 p1 => kv F1 H1 ρ1 σ f ρ2 _ p1.rel e2 fun y F2 H2 p2 => kr F2 H2 ρ2 σ zs _ _ p2.rel e3 fun ps F3 H3 p3 r3 => ?_
  exact q _ F3 H3 ((p1.n.tr p2.n).tr p3) ⟨(x, y), ps, rfl, RepD.le (p2.st.le.trans p3.st.le) p1.rep, RepD.le p3.st.le p2.rep, r3⟩
/-- in its place, or at the end -/
def putD (p : List Key × List D) (k : Key) (d : D) : List Key × List D := if (p.1.any fun j => decide (j = k)) = true then (p.1, dset p.1 p.2 k d) else (p.1 ++ [k], p.2 ++ [d])
theorem put_rep {G : Gx} {F : Hp} {ks : List Key} {ds : List D} {us : List V} {d : D} {v : V} (x : Key) (r : RepDs G F ds us) (l : ks.length = us.length) (rd : RepD G F d v) :
    ∃ us', putK (ks.zip us) x v = (putD (ks, ds) x d).1.zip us' ∧ (putD (ks, ds) x d).1.length = us'.length ∧ RepDs G F (putD (ks, ds) x d).2 us' := by
  have ha := any_zip (us := us) x l
  unfold putD
  by_cases hx : (ks.any fun j => decide (j = x)) = true
  · simp only [hx, if_true]
    obtain ⟨us', f1, f2, f3⟩ := dset_zip x v ks us l
    refine ⟨us', ?_, f2, f3 G F ds d r rd⟩
    rw [← f1]
    unfold putK
    rw [valV_any, ha, if_pos hx]
  · simp only [hx, if_false]
    refine ⟨us ++ [v], ?_, by simp [l], r.append (RepDs.one rd)⟩
    unfold putK
    rw [valV_any, ha, if_neg hx]
    simp only [Bool.false_eq_true, if_false]
    rw [List.zip_append l]
    rfl
def mergeD (p : List Key × List D) (kvs : List (Key × D)) : List Key × List D := kvs.foldl (fun acc kv => putD acc kv.1 kv.2) p
def flatKeys : List (D × D) → Option (List (Key × D))
  | [] => some []
  | (k, d) :: r => (keyD k).bind fun k => (flatKeys r).bind fun r => some ((k, d) :: r)
theorem flat_rep {G : Gx} {F : Hp} : ∀ {ds : List (D × D)} {kvs : List (Key × D)} {ps : List (V × V)}, flatKeys ds = some kvs → RepP G F ds ps → ∃ kus : List (Key × V), ps = kus.map (fun kv => (kV kv.1, kv.2)) ∧ kus.map (·.1) = kvs.map (·.1) ∧ RepDs G F (kvs.map (·.2)) (kus.map (·.2))
  | [], _, _, h, r => by cases h; cases r; exact ⟨[], rfl, rfl, rfl⟩
  | (k, d) :: ds, _, _, h, ⟨u, r, e, h1, h2, h3⟩ => by
    subst e
    obtain ⟨k', e1, h⟩ := bind_some h
    obtain ⟨kvs, e2, h⟩ := bind_some h
    cases h
    obtain ⟨kus, rfl, e3, e4⟩ := flat_rep e2 h3
    refine ⟨(k', u.2) :: kus, ?_, by simp [e3], ⟨_, _, rfl, h2, e4⟩⟩
    rw [List.map_cons, ← keyD_rep e1 h1]
theorem merge_rep {G : Gx} {F : Hp} : ∀ {kvs : List (Key × D)} {kus : List (Key × V)} {ks : List Key} {ds : List D} {us : List V}, kus.map (·.1) = kvs.map (·.1) → RepDs G F (kvs.map (·.2)) (kus.map (·.2)) → RepDs G F ds us → ks.length = us.length →
    ∃ us', mergeK (ks.zip us) kus = (mergeD (ks, ds) kvs).1.zip us' ∧ (mergeD (ks, ds) kvs).1.length = us'.length ∧ RepDs G F (mergeD (ks, ds) kvs).2 us'
  | [], kus, ks, ds, us, hk, _, r, l => by
    cases kus with
    | nil => exact ⟨us, rfl, l, r⟩
    | cons _ _ => cases hk
  | (k, d) :: kvs, kus, ks, ds, us, hk, hr, r, l => by
    cases kus with
    | nil => cases hk
    | cons ku kus =>
      obtain ⟨k', u⟩ := ku
      simp only [List.map_cons, List.cons.injEq] at hk
      obtain ⟨rfl, hk⟩ := hk
      obtain ⟨u', w, e, r1, r2⟩ := hr
      simp only [List.map_cons, List.cons.injEq] at e
      obtain ⟨rfl, rfl⟩ := e
      obtain ⟨us1, f1, f2, f3⟩ := put_rep k' r l r1
      obtain ⟨us2, g1, g2, g3⟩ := merge_rep (kvs := kvs) (kus := kus) (ks := (putD (ks, ds) k' d).1) (ds := (putD (ks, ds) k' d).2) (us := us1) hk r2 f3 f2
      refine ⟨us2, ?_, g2, g3⟩
      show mergeK (putK (ks.zip us) k' u) kus = _
      rw [f1, g1]
      rfl
def dDisp (m : DenP) : Den := fun ρ => (m ρ).bind fun p => (flatKeys p.1).bind fun kvs => if kvs.length ≤ 15 then some (.dct (mergeD ([], []) kvs).1 (mergeD ([], []) kvs).2, p.2) else none
theorem se_disp {keys : List (Option Expr)} {values : List Expr} {m : DenP} (h : SPP X pos keys values m) (hall : keys.all (·.isSome) = true) (hl : keys.length = values.length) (h0 : keys ≠ []) (h15 : keys.length ≤ 15) : SE X (.Dict keys values pos) (dDisp m) := by
  obtain ⟨trs, pp, k⟩ := h
  refine ⟨_, pe_disp pp hall hl h0 h15, fun F H ρ σ t ρ' Q R e q => fun p hp => ?_⟩
  obtain ⟨⟨ds, ρ1⟩, e1, e⟩ := bind_some e
  obtain ⟨kvs, e2, e⟩ := bind_some e
  obtain ⟨hz, e⟩ := ite_some e
  obtain ⟨rfl, rfl⟩ : T.dct (mergeD ([], []) kvs).1 (mergeD ([], []) kvs).2 = t ∧ ρ1 = ρ' := by simpa using e
  have np : ¬ Own ρ σ p := fun z => by
    obtain ⟨⟨u, eu⟩, _⟩ := R.own_at z
    rw [hp] at eu; cases eu
  have hfp : F p = none := R.sub.no hp
  refine k F (upd H p (.dK [])) ρ σ ds _ _ (R.new hp) e1 fun ps F1 H1 p1 rp => ?_
  have hH1 : H1 p = some (.dK []) := p1.st.fr p _ upd_same np
  have hF1 : F1 p = none := by
    cases z : F1 p with
    | none => rfl
    | some w =>
      rcases p1.st.fz p (by rw [z]; simp) with q1 | q1 | q1
      · exact absurd hfp q1
      · exact absurd q1 np
      · rw [upd_same] at q1; cases q1
  have nown1 : ¬ Own ρ1 σ p := fun z => by
    rcases p1.st.ow p z with q1 | q1
    · exact np q1
    · rw [upd_same] at q1; cases q1
  obtain ⟨kus, rfl, e3, e4⟩ := flat_rep e2 rp
  refine ⟨hH1, kus, rfl, ?_, ?_⟩
  · have := congrArg List.length e3
    simp only [List.length_map] at this
    omega
  obtain ⟨us', g1, g2, g3⟩ := merge_rep (G := gx X) (F := F1) (ks := []) (ds := []) (us := []) e3 e4 rfl rfl
  have g1 : mergeK [] kus = (mergeD ([], []) kvs).1.zip us' := g1
  rw [g1]
  -- the new dict
  refine q _ F1 _ ⟨⟨p1.st.le, fun a u ha hn => ?_, fun a ha => ?_, fun a ha => ?_⟩, ⟨p1.rel.len, fun a u ha => ?_, fun j u ha => ?_, p1.rel.sep⟩, ⟨p, us', rfl, upd_same, hF1, g2, g3⟩, fun a o ev => ?_⟩
  · have hap : a ≠ p := fun z => by subst z; rw [hp] at ha; cases ha
    rw [upd_ne hap]
    exact p1.st.fr a u (by rw [upd_ne hap]; exact ha) hn
  · rcases p1.st.ow a ha with q1 | q1
    · exact .inl q1
    · by_cases hap : a = p
      · subst hap; exact .inr hp
      · rw [upd_ne hap] at q1; exact .inr q1
  · rcases p1.st.fz a ha with q1 | q1 | q1
    · exact .inl q1
    · exact .inr (.inl q1)
    · by_cases hap : a = p
      · subst hap; exact .inr (.inr hp)
      · rw [upd_ne hap] at q1; exact .inr (.inr q1)
  · have hap : a ≠ p := fun z => by subst z; rw [hF1] at ha; cases ha
    rw [upd_ne hap]
    exact p1.rel.sub a u ha
  · obtain ⟨v, h1, h2⟩ := p1.rel.rep j u ha
    refine ⟨v, h1, h2.go (Le.refl _) fun x ox ex => ?_⟩
    subst ex
    have hxp : x ≠ p := fun z => by subst z; exact nown1 ⟨j, u, ha, ox, h1⟩
    exact ⟨upd_ne hxp, (p1.rel.own_at ⟨j, u, ha, ox, h1⟩).2⟩
  · cases ev
    exact ⟨nown1, .inr hp⟩
/-- {} -/
def dNewD : Den := fun ρ => some (.dct [] [], ρ)
theorem se_dnew : SE X (.Dict [] [] pos) dNewD := ⟨_, pe_dnewK, fun F H ρ σ t ρ' Q R e q => by
  cases e
  intro p hp
  have np : ¬ Own ρ σ p := fun z => by
    obtain ⟨⟨u, eu⟩, _⟩ := R.own_at z
    rw [hp] at eu; cases eu
  exact q _ F _ ⟨Stp.new hp, R.new hp, ⟨p, [], rfl, upd_same, R.sub.no hp, rfl, rfl⟩, fun a o ev => by cases ev; exact ⟨np, .inr hp⟩⟩⟩
/-! ### len(set(xs)), ints -/
def dedupI (ns : List Int) : List Int := ns.foldl PyProof.Rows.step_dedup []
theorem dedup_met (ns : List Int) : PyProof.Rows.firstMet (fun i => ns.getD i 0) ns.length = dedupI ns := by
  have e : (List.range ns.length).map (fun i => ns.getD i 0) = ns := by
    apply List.ext_getElem
    · rw [List.length_map, List.length_range]
    · intro i h1 h2
      rw [List.getElem_map, List.getElem_range, List.getD_eq_getElem?_getD, List.getElem?_eq_getElem h2]
      rfl
  unfold PyProof.Rows.firstMet dedupI
  rw [e]
def tLenSet (K : PySem.W.Frag) (ta : TE) : TE := fun σ H Q => ta σ H fun x H1 => ∃ (l : Addr) (ns : List Int), x = V.ref l ∧ SqL K H1 l (ns.map V.int) ∧ ns.length + 1 < scanBound ∧ Q (.int ((dedupI ns).length : Nat)) H1
theorem pe_lenSet {ta : TE} {p p2 q pos : Pos} (hc : X.calm = true) (hg : Gl X "len") (hm : X.mg "len" = none) (hg2 : Gl X "set") (hm2 : X.mg "set" = none) (ha : PE X a ta)
    (na : starEach [a] X.env = (false, eval a X.env) :: starEach [] X.env) : PE X (.Call (.Name "len" p) [.Call (.Name "set" p2) [a] [] q] [] pos) (tLenSet X.K ta) := by
  refine ⟨fun pins s σ H Q I h => ?_⟩
  refine Call_ (ld_blt I hg hm PySem.boot_len ?_)
  refine PyProof.Rows.callWith_builtin1 (PyProof.Rows.args_cons ?_ rfl) rfl rfl
  refine Call_ (ld_blt I hg2 hm2 PyProof.Rows.boot_set ?_)
  refine PyProof.Rows.callWith_type1 (PyProof.Rows.args_cons (thn (ha.run pins s σ H _ I h) fun v s1 ⟨x, H1, I1, r1, q1⟩ => PyProof.Rows.args_nil ?_) na) na rfl
  obtain ⟨l, ns, rfl, hq, h1, q1⟩ := q1
  cases r1
  obtain ⟨its, r, pl, hz⟩ := I1.list hq
  have hl : its.toArray.size = ns.length := by rw [List.size_toArray, ← r.length, List.length_map]
  refine call_set_list (I1.ok.hd hc) pl.isList (ns := ns) (by simpa using r.ints) (by omega) fun h' tk hS hk => ?_
  rw [hl, dedup_met] at hS
  refine PyProof.Rows.args_nil ?_
  obtain ⟨o, es, ep, t, ho, hex, hd, _, _, hb, hf, hn⟩ := hS
  have I2 : Inv X pins σ H1 { s1 with heap := h', toks := tk } := I1.kept fun b o e => hk b o (Heap.lt_size e) e
  refine call_len_set ho hex hd hf (by unfold scanBound at hb; omega) ⟨.int ((dedupI ns).length : Nat), H1, I2.tok _, ⟨_, by rw [hn]⟩, q1⟩
def dLenSet (m : Den) : Den := fun ρ => (dD m ρ).bind fun p => match p.1 with
  | .lst ds => (asInts ds).bind fun ns => if ns.length + 1 < scanBound then some (.lf (.int ((dedupI ns).length : Nat)), p.2) else none
  | _ => none
theorem se_lenSet {m : Den} {p p2 q pos : Pos} (hc : X.calm = true) (hg : Gl X "len") (hm : X.mg "len" = none) (hg2 : Gl X "set") (hm2 : X.mg "set" = none) (h : SE X a m)
    (na : starEach [a] X.env = (false, eval a X.env) :: starEach [] X.env) : SE X (.Call (.Name "len" p) [.Call (.Name "set" p2) [a] [] q] [] pos) (dLenSet m) := by
  obtain ⟨te, pe, k⟩ := h.d
  refine ⟨_, pe_lenSet hc hg hm hg2 hm2 pe na, fun F H ρ σ t ρ' Q R e q => ?_⟩
  obtain ⟨⟨d, ρ1⟩, e1, e⟩ := bind_some e
  cases d with
  | lst ds =>
    obtain ⟨ns, e2, e⟩ := bind_some e
    obtain ⟨hz, e⟩ := ite_some e
    cases e
    refine k F H ρ σ _ _ _ R e1 fun v F1 H1 p1 => ?_
    obtain ⟨p0, us, rfl, h1, r1⟩ := id p1.rep
    obtain rfl := asInts_eq e2
    obtain rfl := RepDs.ints_inv r1
    exact ⟨p0, ns, rfl, SqL.of (p1.rel.sub.lst h1), hz, q _ F1 H1 ⟨p1.st, p1.rel, rfl, fun _ o => nomatch o⟩⟩
  | _ => cases e
end VI

set_option Elab.async false
set_option linter.all false
set_option maxRecDepth 100000
set_option maxHeartbeats 4000000
/-! VO: the compiler for expressions, and that it is right -/
namespace VI
open PySem PySem.Spec L2
open PyProof.Rows hiding St

/-! ### names -/
def slotOf (N : List Str) (x : Str) : Option Nat := N.findIdx? fun y => decide (y = x)
theorem slotOf_get {N : List Str} {x : Str} {i : Nat} (h : slotOf N x = some i) : N[i]? = some x := by
  unfold slotOf at h
  rw [List.findIdx?_eq_some_iff_getElem] at h
  obtain ⟨hi, e, _⟩ := h
  rw [List.getElem?_eq_getElem hi, of_decide_eq_true e]
def visOf (sc : Scope) (x : Str) : Bool := match sc.names.lookup x with
  | some .local => true
  | some .cell => true
  | some .free => true
  | _ => false
theorem visOf_ok {sc : Scope} {x : Str} (h : visOf sc x = true) : Vis sc x := by
  unfold visOf at h
  split at h <;> first | exact .inl (by assumption) | exact .inr (.inl (by assumption)) | exact .inr (.inr (by assumption)) | cases h
def okNm (x : Str) : Bool := !(x == ("__debug__" : Str)) && !(x == ("__classdict__" : Str))
theorem okNm_ok {x : Str} (h : okNm x = true) : (x == ("__debug__" : Str)) = false ∧ (x == ("__classdict__" : Str)) = false := by
  unfold okNm at h
  simpa using h
def gloOf (sc : Scope) (x : Str) : Bool := decide (sc.names.lookup x = some .globalImplicit) && okNm x
def slotV (ce : CE) (x : Str) : Option Nat := if visOf ce.sc x = true ∧ okNm x = true then slotOf ce.N x else none
/-- a slot that may be stored -/
def slotS (ce : CE) (x : Str) : Option Nat := if (ce.sc.names.lookup x = some .local ∨ (ce.sc.names.lookup x = some .cell ∧ ce.own x = true)) ∧ okNm x = true then (slotOf ce.N x).bind fun i => if ce.A i = true then some i else none else none
section
variable {ce : CE} {X : Cx} {k : Nat}
theorem slotV_ok (g : Good ce X k) {x : Str} {i : Nat} (h : slotV ce x = some i) : X.N[i]? = some x ∧ Vis X.env.scope x ∧ (x == ("__debug__" : Str)) = false ∧ (x == ("__classdict__" : Str)) = false := by
  obtain ⟨⟨h1, h2⟩, h3⟩ := ite_some' h
  obtain ⟨h4, h5⟩ := okNm_ok h2
  exact ⟨by rw [g.N]; exact slotOf_get h3, by rw [g.sc]; exact visOf_ok h1, h4, h5⟩
theorem slotS_ok (g : Good ce X k) {x : Str} {i : Nat} (h : slotS ce x = some i) : X.N[i]? = some x ∧ Loc X.env.scope x ∧ ce.A i = true ∧ (X.fn x = true ∨ X.env.scope.names.lookup x = some .local) ∧ Vis X.env.scope x ∧ (x == ("__debug__" : Str)) = false ∧ (x == ("__classdict__" : Str)) = false := by
  obtain ⟨⟨h1, h2⟩, h3⟩ := ite_some' h
  obtain ⟨j, h4, h5⟩ := bind_some h3
  obtain ⟨h6, rfl⟩ := ite_some h5
  obtain ⟨h7, h8⟩ := okNm_ok h2
  rw [g.N, g.sc]
  refine ⟨slotOf_get h4, ?_, h6, ?_, ?_, h7, h8⟩
  · rcases h1 with h | ⟨h, _⟩
    · exact .inl h
    · exact .inr h
  · rcases h1 with h | ⟨_, h⟩
    · exact .inr h
    · exact .inl (g.own x h)
  · rcases h1 with h | ⟨h, _⟩
    · exact .inl h
    · exact .inr (.inl h)
theorem gloOf_ok (g : Good ce X k) {x : Str} (h : gloOf ce.sc x = true) : Gl X x ∧ (x == ("__debug__" : Str)) = false := by
  unfold gloOf at h
  rw [Bool.and_eq_true] at h
  refine ⟨?_, (okNm_ok h.2).1⟩
  unfold Gl Env.kindOf
  rw [g.sc]
  exact of_decide_eq_true h.1
end

/-! ### tables -/
def binD : Operator → Option (D → D → Option T)
  | .Add => some addD
  | .Sub => some subD
  | .Mult => some mulD
  | .FloorDiv => some fdivD
  | .Mod => some modD
  | .Pow => some powD
  | _ => none
theorem binD_ok {X : Cx} {op : Operator} {g : D → D → Option T} (h : binD op = some g) : OpD X (binaryOp op) g := by
  cases op <;> first | (cases h; first | exact od_add | exact od_sub | exact od_mul | exact od_fdiv | exact od_mod | exact od_pow) | cases h
def cmpD : CmpOp → Option (D → D → Option T)
  | .Eq => some eqD
  | .NotEq => some neD
  | .Lt => some ltD
  | .LtE => some leD
  | .Gt => some gtD
  | .GtE => some geD
  | .Is => some isD
  | .IsNot => some isNotD
  | _ => none
theorem cmpD_ok {X : Cx} (hu : X.A.units + 64 < cLine) {op : CmpOp} {g : D → D → Option T} (h : cmpD op = some g) : OpD X (compareOp op) g ∧ op ≠ .In ∧ op ≠ .NotIn := by
  cases op <;> first | (cases h; exact ⟨by first | exact od_eq hu | exact od_ne hu | exact od_lt | exact od_le | exact od_gt | exact od_ge | exact od_is | exact od_isNot, by decide, by decide⟩) | cases h
def augD : Operator → Option (Bool × (D → D → Option T))
  | .Add => some (true, iaddD)
  | .Sub => some (false, subD)
  | .Mult => some (false, imulD)
  | .FloorDiv => some (false, fdivD)
  | .Mod => some (false, modD)
  | _ => none
theorem augD_ok {X : Cx} {op : Operator} {b : Bool} {g : D → D → Option T} (h : augD op = some (b, g)) : OpD X (inplaceOp op) g ∧ (b = true → op = .Add) := by
  cases op <;> first | (cases h; exact ⟨by first | exact od_iadd | exact od_isub | exact od_imul | exact od_ifdiv | exact od_imod, by first | exact fun _ => rfl | exact fun h => nomatch h⟩) | cases h
/-- built-ins: a type or a function, its name in the model, what it tells -/
def biD1 (x : Str) : Option (Bool × String × (List D → Option T)) :=
  if x = "len" then some (false, "len", on1 lenD)
  else if x = "abs" then some (false, "abs", on1 absD)
  else if x = "max" then some (false, "max", maxL)
  else if x = "min" then some (false, "min", minL)
  else if x = "sum" then some (false, "sum", on1 sumD)
  else if x = "all" then some (false, "all", on1 allD)
  else if x = "any" then some (false, "any", on1 anyD)
  else none
def biD2 (x : Str) : Option (Bool × String × (List D → Option T)) :=
  if x = "int" then some (true, "int", on1 intOfD)
  else if x = "range" then some (true, "range", rangeD)
  else if x = "list" then some (true, "list", on1 listD)
  else if x = "tuple" then some (true, "tuple", on1 tupleD)
  else if x = "sorted" then some (false, "sorted", on1 sortedD)
  else if x = "isinstance" then some (false, "isinstance", isiD)
  else none
def biD (x : Str) : Option (Bool × String × (List D → Option T)) := match biD1 x with
  | some p => some p
  | none => biD2 x
structure BiOk (X : Cx) (x : Str) (b : Bool) (id : String) (g : List D → Option T) : Prop where
  fn : b = false → CallB X (.builtin id) g ∧ bootBuiltins x = some (.builtin id)
  ty : b = true → CallB X (.type id) g ∧ bootBuiltins x = some (.type id)
  nm : x ≠ "__name__"
theorem biD1_ok {X : Cx} (hc : X.calm = true) {x : Str} {b : Bool} {id : String} {g : List D → Option T} (h : biD1 x = some (b, id, g)) : BiOk X x b id g := by
  unfold biD1 at h
  split at h
  · rename_i e; subst e; cases h; exact ⟨fun _ => ⟨cb_len, by decide +kernel⟩, (fun h => nomatch h), by decide⟩
  split at h
  · rename_i e; subst e; cases h; exact ⟨fun _ => ⟨cb_abs, by decide +kernel⟩, (fun h => nomatch h), by decide⟩
  split at h
  · rename_i e; subst e; cases h; exact ⟨fun _ => ⟨cb_max hc, by decide +kernel⟩, (fun h => nomatch h), by decide⟩
  split at h
  · rename_i e; subst e; cases h; exact ⟨fun _ => ⟨cb_min hc, by decide +kernel⟩, (fun h => nomatch h), by decide⟩
  split at h
  · rename_i e; subst e; cases h; exact ⟨fun _ => ⟨cb_sum hc, by decide +kernel⟩, (fun h => nomatch h), by decide⟩
  split at h
  · rename_i e; subst e; cases h; exact ⟨fun _ => ⟨cb_all hc, by decide +kernel⟩, (fun h => nomatch h), by decide⟩
  split at h
  · rename_i e; subst e; cases h; exact ⟨fun _ => ⟨cb_any hc, by decide +kernel⟩, (fun h => nomatch h), by decide⟩
  cases h
theorem biD2_ok {X : Cx} (hc : X.calm = true) (hu : X.A.units + 65 < cLine) {x : Str} {b : Bool} {id : String} {g : List D → Option T} (h : biD2 x = some (b, id, g)) : BiOk X x b id g := by
  unfold biD2 at h
  split at h
  · rename_i e; subst e; cases h; exact ⟨(fun h => nomatch h), fun _ => ⟨cb_int, by decide +kernel⟩, by decide⟩
  split at h
  · rename_i e; subst e; cases h; exact ⟨(fun h => nomatch h), fun _ => ⟨cb_range, by decide +kernel⟩, by decide⟩
  split at h
  · rename_i e; subst e; cases h; exact ⟨(fun h => nomatch h), fun _ => ⟨cb_list hc, by decide +kernel⟩, by decide⟩
  split at h
  · rename_i e; subst e; cases h; exact ⟨(fun h => nomatch h), fun _ => ⟨cb_tuple hc, by decide +kernel⟩, by decide⟩
  split at h
  · rename_i e; subst e; cases h; exact ⟨fun _ => ⟨cb_sorted hu, by decide +kernel⟩, (fun h => nomatch h), by decide⟩
  split at h
  · rename_i e; subst e; cases h; exact ⟨fun _ => ⟨cb_isi, by decide +kernel⟩, (fun h => nomatch h), by decide⟩
  cases h
theorem biD_ok {X : Cx} (hc : X.calm = true) (hu : X.A.units + 65 < cLine) {x : Str} {b : Bool} {id : String} {g : List D → Option T} (h : biD x = some (b, id, g)) : BiOk X x b id g := by
  unfold biD at h
  split at h
  · rename_i p e; cases h; exact biD1_ok hc e
  · exact biD2_ok hc hu h
def tyNm (x : Str) : Option String :=
  if x = "int" then some "int" else if x = "str" then some "str" else if x = "list" then some "list" else if x = "tuple" then some "tuple" else if x = "bool" then some "bool" else if x = "dict" then some "dict" else none
theorem tyNm_ok {x : Str} {n : String} (h : tyNm x = some n) : bootBuiltins x = some (.type n) ∧ x ≠ "__name__" := by
  unfold tyNm at h
  repeat (split at h; (rename_i e; subst e; cases h; exact ⟨by decide +kernel, by decide⟩))
  cases h
def constD : Const → Option D
  | .int i => some (.int i)
  | .str x => some (.str x)
  | .bool b => some (.bl b)
  | .none => some .non
  | _ => none
/-- the block's own names, with their slots -/
def ownOf (N : List Str) (scope : Scope) : List (Str × Nat) := scope.names.filterMap fun y => match y.2 with
  | .local => (slotOf N y.1).bind fun i => some (y.1, i)
  | .cell => (slotOf N y.1).bind fun i => some (y.1, i)
  | _ => none
def CE.blk (ce : CE) (scope : Scope) : CE := { ce with sc := relS scope ce.sc, own := fun x => scope.names.lookup x == some .cell, A := fun i => decide (i ∈ (ownOf ce.N scope).map (·.2)) }
theorem Good.blk {ce : CE} {X : Cx} {k : Nat} (g : Good ce X k) (scope : Scope) (hk : scope.kind = .function) (s : Shared) (H : Hp) (C : Addr) (cl : List (Str × Addr)) (fp : List Addr) : Good (ce.blk scope) (X.blk s H scope (compEnvC scope cl C X.env) fp) k where
  N := g.N
  nd := g.nd
  sc := by
    show relS scope X.env.scope = relS scope ce.sc
    rw [g.sc]
  kind := hk
  calm := g.calm
  room := g.room
  own := fun x h => h
  fns := fun p hp => let ⟨f, fd, ps, a, b, c, d⟩ := (g.fns p hp).ex; ⟨f, fd, ps, a, b, c, d⟩
  cons := g.cons
  free := g.free

/-- methods of built-in values -/
def mD (m : Str) : Option (D → List D → Option T) :=
  if m = "index" then some indexA else if m = "count" then some countD else if m = "join" then some joinD else none
theorem mD_ok {X : Cx} (hu : X.A.units + 65 < cLine) {m : Str} {g : D → List D → Option T} (h : mD m = some g) : ∃ W, MW X m W ∧ RulM X W g := by
  unfold mD at h
  split at h
  · rename_i e; subst e; cases h; exact ⟨_, mw_indexA hu, rul_indexA⟩
  split at h
  · rename_i e; subst e; cases h; exact ⟨_, mw_count hu, rul_count⟩
  split at h
  · rename_i e; subst e; cases h; exact ⟨_, mw_join, rul_join⟩
  cases h
/-- len(set(a)) -/
def setArg (ce : CE) (x : Str) (args : List Expr) : Option Expr := match args with
  | [.Call (.Name y _) [a] [] _] => if x = "len" ∧ y = "set" ∧ gloOf ce.sc y = true ∧ y ∈ ce.free ∧ notStar a = true then some a else none
  | _ => none
theorem setArg_ok {ce : CE} {x : Str} {args : List Expr} {a : Expr} (h : setArg ce x args = some a) : x = "len" ∧ ∃ p q, args = [.Call (.Name "set" p) [a] [] q] ∧ gloOf ce.sc "set" = true ∧ ("set" : Str) ∈ ce.free ∧ notStar a = true := by
  unfold setArg at h
  split at h
  · obtain ⟨⟨h1, h2, h3, h4, h5⟩, h⟩ := ite_some' h
    cases h
    subst h2
    exact ⟨h1, _, _, rfl, h3, h4, h5⟩
  · cases h
/-- enumerate(a), zip(a, b), reversed(a) -/
def itArg (ce : CE) (e : Expr) : Option (Nat × List Expr) := match e with
  | .Call (.Name x _) args [] _ => if gloOf ce.sc x = true ∧ x ∈ ce.free ∧ args.all notStar = true then
      if x = "enumerate" ∧ args.length = 1 then some (0, args) else if x = "zip" ∧ args.length = 2 then some (1, args) else if x = "reversed" ∧ args.length = 1 then some (2, args) else none
    else none
  | _ => none
theorem itArg_ok {ce : CE} {e : Expr} {k : Nat} {args : List Expr} (h : itArg ce e = some (k, args)) : ∃ x p q, e = .Call (.Name x p) args [] q ∧ gloOf ce.sc x = true ∧ x ∈ ce.free ∧ args.all notStar = true ∧
    ((x = "enumerate" ∧ k = 0 ∧ args.length = 1) ∨ (x = "zip" ∧ k = 1 ∧ args.length = 2) ∨ (x = "reversed" ∧ k = 2 ∧ args.length = 1)) := by
  unfold itArg at h
  split at h
  · rename_i x p as q
    obtain ⟨⟨h1, h2, h3⟩, h⟩ := ite_some' h
    split at h
    · rename_i hx; cases h; exact ⟨x, p, q, rfl, h1, h2, h3, .inl ⟨hx.1, rfl, hx.2⟩⟩
    split at h
    · rename_i hx; cases h; exact ⟨x, p, q, rfl, h1, h2, h3, .inr (.inl ⟨hx.1, rfl, hx.2⟩)⟩
    split at h
    · rename_i hx; cases h; exact ⟨x, p, q, rfl, h1, h2, h3, .inr (.inr ⟨hx.1, rfl, hx.2⟩)⟩
    · cases h
  · cases h
/-! ### the compiler -/
mutual
def cE : Nat → CE → Expr → Option Den
  | 0, _, _ => none
  | n + 1, ce, e => match e with
    | .Constant c _ _ => (constD c).bind fun d => some (dC d)
    | .Name x _ => if visOf ce.sc x = true then (slotV ce x).bind fun i => some (dVar i)
      else if gloOf ce.sc x = true then match ce.cons.lookup x with
        | some d => some (dC d)
        | none => if x ∈ ce.free then (tyNm x).bind fun t => some (dC (.ty t)) else none
      else none
    | .BinOp a op b _ => (binD op).bind fun g => (cE n ce a).bind fun ma => (cE n ce b).bind fun mb => some (dBin g ma mb)
    | .UnaryOp .USub a _ => (cE n ce a).bind fun ma => some (dUn negD ma)
    | .UnaryOp .Not a _ => (cE n ce a).bind fun ma => some (dNotV ma)
    | .BoolOp _ [a] _ => cE n ce a
    | .BoolOp .And (a :: b :: es) pos => (cE n ce a).bind fun ma => (cE n ce (.BoolOp .And (b :: es) pos)).bind fun mb => some (dAndV ma mb)
    | .BoolOp .Or (a :: b :: es) pos => (cE n ce a).bind fun ma => (cE n ce (.BoolOp .Or (b :: es) pos)).bind fun mb => some (dOrV ma mb)
    | .Compare a [.In] [b] _ => if behindInMarks .In b = false then (cO n ce a).bind fun ma => (cO n ce b).bind fun mb => some (dBinO (hasRul false) ma mb) else none
    | .Compare a [.NotIn] [b] _ => if behindInMarks .NotIn b = false then (cO n ce a).bind fun ma => (cO n ce b).bind fun mb => some (dBinO (hasRul true) ma mb) else none
    | .Compare a [op] [b] _ => (cmpD op).bind fun g => (cE n ce a).bind fun ma => (cE n ce b).bind fun mb => some (dBin g ma mb)
    | .Compare a [op, op'] [b, c] _ => (cmpD op).bind fun g => (cmpD op').bind fun g' => (cE n ce a).bind fun ma => (cE n ce b).bind fun mb => (cE n ce c).bind fun mc => some (dBV (dChain g g' ma mb mc))
    | .Dict [] [] _ => some dNewD
    | .Dict keys values _ => if keys.all (·.isSome) = true ∧ keys.length = values.length ∧ keys ≠ [] ∧ keys.length ≤ 15 then (cD n ce keys values).bind fun m => some (dDisp m) else none
    | .IfExp c a b _ => (cT n ce c).bind fun mc => (cE n ce a).bind fun ma => (cE n ce b).bind fun mb => some (dIf mc ma mb)
    | .Tuple es _ _ => (cA n ce es).bind fun m => some (dTup m)
    | .List es _ => (cA n ce es).bind fun m => some (dLst m)
    | .Subscript a (.Slice lo hi none _) _ => (cO n ce a).bind fun m => (cP n ce lo).bind fun ml => (cP n ce hi).bind fun mh => some (dSlice m ml mh)
    | .Subscript a (.Slice lo none (some st) _) _ => (cE n ce a).bind fun m => (cP n ce lo).bind fun ml => (cE n ce st).bind fun ms => some (dStep m ml ms)
    | .Subscript a b _ => if notSlice b = true then (cO n ce a).bind fun ma => (cO n ce b).bind fun mb => some (dBinO ixD ma mb) else none
    | .Call (.Name x _) args [] _ => if gloOf ce.sc x = true ∧ args.all notStar = true then match ce.fns.lookup x with
        | some (fl, g) => (cL n ce fl args).bind fun m => some (dCall g m)
        | none => if x ∈ ce.free ∧ args ≠ [] then match setArg ce x args with
            | some a => (cE n ce a).bind fun m => some (dLenSet m)
            | none => (biD x).bind fun p => (cL n ce [true, true, true] args).bind fun m => some (dCB p.2.2 m)
          else none
      else none
    | .Call (.Attribute (.Name x _) m apos) [] [] cpos => if m = "pop" ∧ (apos.endLine == cpos.line) = true then (slotV ce x).bind fun i => some (dPop i) else none
    | .Call (.Attribute (.Name x _) m apos) [e] [] cpos => if m = "pop" ∧ (apos.endLine == cpos.line) = true ∧ notStar e = true then (slotV ce x).bind fun i => (cE n ce e).bind fun me => some (dPopAt i me) else
        if (apos.endLine == cpos.line) = true ∧ notStar e = true then (mD m).bind fun g => (slotV ce x).bind fun i => (cA n ce [e]).bind fun ma => some (dM g (dSl i) ma) else none
    | .Call (.Attribute o m apos) (e :: es) [] cpos => if plainBase o = true ∧ notStar e = true ∧ es.all notStar = true ∧ (apos.endLine == cpos.line) = true ∧ es.length < 20 then (mD m).bind fun g => (cO n ce o).bind fun mo => (cA n ce (e :: es)).bind fun ma => some (dM g mo ma) else none
    | .ListComp elt [⟨tg, iter, ifs, 0⟩] scope _ => if blkC ce.N ce.sc scope (ownOf ce.N scope) = true ∧ notSet iter = true then
        (cI n ce iter).bind fun mi => (cG n (ce.blk scope) mi.1 tg).bind fun g => (cTs n (ce.blk scope) ifs).bind fun mt => (cE n (ce.blk scope) elt).bind fun me => some (dComp ((ownOf ce.N scope).map (·.2)) mi.2 g mt me) else none
    | _ => none
def cO : Nat → CE → Expr → Option DenO
  | 0, _, _ => none
  | n + 1, ce, e => match e with
    | .Name x p => if visOf ce.sc x = true then (slotV ce x).bind fun i => some (dSl i) else (cE n ce (.Name x p)).bind fun m => some (dO m)
    | e => (cE n ce e).bind fun m => some (dO m)
def cT : Nat → CE → Expr → Option DenB
  | 0, _, _ => none
  | n + 1, ce, e => match e with
    | .BoolOp .And [a] _ => cT n ce a
    | .BoolOp .Or [a] _ => cT n ce a
    | .BoolOp .And (a :: b :: es) pos => (cT n ce a).bind fun ma => (cT n ce (.BoolOp .And (b :: es) pos)).bind fun mb => some (dAnd ma mb)
    | .BoolOp .Or (a :: b :: es) pos => (cT n ce a).bind fun ma => (cT n ce (.BoolOp .Or (b :: es) pos)).bind fun mb => some (dOr ma mb)
    | .UnaryOp .Not a _ => (cT n ce a).bind fun ma => some (dNot ma)
    | .Compare a [.In] [b] _ => if behindInMarks .In b = false then (cO n ce a).bind fun ma => (cO n ce b).bind fun mb => some (dBl (dBinO (hasRul false) ma mb)) else none
    | .Compare a [.NotIn] [b] _ => if behindInMarks .NotIn b = false then (cO n ce a).bind fun ma => (cO n ce b).bind fun mb => some (dBl (dBinO (hasRul true) ma mb)) else none
    | .Compare a [op] [b] _ => (cmpD op).bind fun g => (cE n ce a).bind fun ma => (cE n ce b).bind fun mb => some (dBl (dBin g ma mb))
    | .Compare a [op, op'] [b, c] _ => (cmpD op).bind fun g => (cmpD op').bind fun g' => (cE n ce a).bind fun ma => (cE n ce b).bind fun mb => (cE n ce c).bind fun mc => some (dChain g g' ma mb mc)
    | e => if plainTest e = true then (cO n ce e).bind fun m => some (dTru m) else none
def cTs : Nat → CE → List Expr → Option DenB
  | 0, _, _ => none
  | n + 1, ce, es => match es with
    | [] => some dYes
    | [e] => cT n ce e
    | _ => none
def cL : Nat → CE → List Bool → List Expr → Option DenL
  | 0, _, _, _ => none
  | n + 1, ce, fl, es => match es with
    | [] => some dNilL
    | e :: es => if notStar e = true then (if fl.headD false = true then cO n ce e else (cE n ce e).bind fun m => some (dO m)).bind fun m => (cL n ce fl.tail es).bind fun r => some (dConsL m r) else none
def cA : Nat → CE → List Expr → Option DenA
  | 0, _, _ => none
  | n + 1, ce, es => match es with
    | [] => some dNilA
    | e :: es => if notStar e = true then (cE n ce e).bind fun m => (cA n ce es).bind fun r => some (dConsA m r) else none
def cP : Nat → CE → Option Expr → Option (Option Den)
  | 0, _, _ => none
  | n + 1, ce, e => match e with
    | none => some none
    | some e => (cE n ce e).bind fun m => some (some m)
def cG : Nat → CE → Bool → Expr → Option DenG
  | 0, _, _, _ => none
  | n + 1, ce, pr, e => match e with
    | .Name x _ => if pr = true then none else (slotS ce x).bind fun i => some (gNm i)
    | .Tuple es _ _ => (cGs n ce es).bind fun g => some (gTp es.length g)
    | .Subscript (.Name x _) b _ => if pr = true ∨ notSlice b = false then none else (slotV ce x).bind fun i => (cE n ce b).bind fun mi => some (gSubIx i mi)
    | _ => none
def cGs : Nat → CE → List Expr → Option DenGs
  | 0, _, _ => none
  | n + 1, ce, es => match es with
    | [] => some gNl
    | e :: es => if notStar e = true then (cG n ce false e).bind fun g => (cGs n ce es).bind fun r => some (gCn g r) else none
def cI : Nat → CE → Expr → Option (Bool × DenI)
  | 0, _, _ => none
  | n + 1, ce, e => match itArg ce e with
    | some (0, args) => (cA n ce args).bind fun m => some (true, dEnum m)
    | some (1, args) => (cA n ce args).bind fun m => some (true, dZip m)
    | some (2, [a]) => (cE n ce a).bind fun m => some (false, dRev m)
    | _ => (cE n ce e).bind fun m => some (false, dIter m)
def cD : Nat → CE → List (Option Expr) → List Expr → Option DenP
  | 0, _, _, _ => none
  | n + 1, ce, ks, vs => match ks, vs with
    | [], [] => some dNilP
    | some k :: ks, v :: vs => (cE n ce k).bind fun mk => (cE n ce v).bind fun mv => (cD n ce ks vs).bind fun r => some (dConsP mk mv r)
    | _, _ => none
end
end VI

set_option Elab.async false
set_option linter.all false
set_option maxRecDepth 100000
set_option maxHeartbeats 4000000
/-! VP: the compiler for expressions is right -/
namespace VI
open PySem PySem.Spec L2
open PyProof.Rows hiding St

def Rp (pr : Bool) : Gx → Hp → D → V → Prop := if pr = true then RepI else RepD
theorem assignEach_len (env : Env) : ∀ es : List Expr, (assignEach es env).length = es.length
  | [] => rfl
  | e :: es => by
    have ih := assignEach_len env es
    cases e <;> (show (assignEach es env).length + 1 = es.length + 1; rw [ih])
theorem assign_cons {e : Expr} (es : List Expr) (env : Env) (h : notStar e = true) : assignEach (e :: es) env = (false, assign e env) :: assignEach es env := by
  cases e <;> first | rfl | cases h
theorem assign_nostar (env : Env) : ∀ es : List Expr, es.all notStar = true → (assignEach es env).findIdx? (·.1) = none
  | [], _ => rfl
  | e :: es, h => by
    simp only [List.all_cons, Bool.and_eq_true] at h
    rw [assign_cons es env h.1, List.findIdx?_cons]
    rw [if_neg Bool.false_ne_true, assign_nostar env es h.2]
    rfl
def isTup : Expr → Bool
  | .Tuple _ _ _ => true
  | _ => false
theorem cG_tup {n : Nat} {ce : CE} {pr : Bool} {e : Expr} {g : DenG} (h : cG n ce pr e = some g) : pr = true → isTup e = true := by
  rintro rfl
  cases n with
  | zero => cases h
  | succ n =>
    unfold cG at h
    split at h
    · rw [if_pos rfl] at h; cases h
    · rfl
    · rw [if_pos (Or.inl rfl)] at h; cases h
    · cases h
structure AllOk (n : Nat) (ce : CE) (X : Cx) : Prop where
  E : ∀ e m, cE n ce e = some m → SE X e m
  O : ∀ e m, cO n ce e = some m → SO X e m
  T : ∀ e m, cT n ce e = some m → ST X e m
  W : ∀ op a pos m, cT n ce (.BoolOp op a pos) = some m → SW X (.BoolOp op a pos) m
  Ts : ∀ es m, cTs n ce es = some m → STs X es m
  L : ∀ fl es m, cL n ce fl es = some m → SL X es m
  A : ∀ es m, cA n ce es = some m → SA X es m
  P : ∀ e m, cP n ce e = some m → SPt X e m
  G : ∀ pr e g, cG n ce pr e = some g → SG X ce.A (Rp pr) e g
  Gs : ∀ es g, cGs n ce es = some g → SGs X ce.A es g ∧ es.all notStar = true
  I : ∀ tg e p, cI n ce e = some p → (p.1 = true → isTup tg = true) → SI X (Rp p.1) tg e p.2
  D : ∀ pos ks vs m, cD n ce ks vs = some m → SPP X pos ks vs m
theorem AllOk.t {n : Nat} {ce : CE} {X : Cx} (h : AllOk n ce X) {e : Expr} {m : DenB} (k : cT n ce e = some m) : ST X e m := by
  exact h.T e m k
theorem okE {n : Nat} (ih : ∀ (ce : CE) (X : Cx) (k : Nat), Good ce X k → AllOk n ce X) {ce : CE} {X : Cx} {k : Nat} (g : Good ce X k) (e : Expr) (m : Den) (h : cE (n + 1) ce e = some m) : SE X e m := by
  have o := ih ce X k g
  unfold cE at h
  split at h
  · -- Constant
    rename_i c j pos
    obtain ⟨d, h1, h⟩ := bind_some h
    cases h
    cases c <;> first | (cases h1; first | exact se_int | exact se_str | exact se_bl | exact se_non) | cases h1
  · -- Name
    rename_i x pos
    split at h
    · obtain ⟨i, h1, h⟩ := bind_some h
      cases h
      obtain ⟨a, b, c, d⟩ := slotV_ok g h1
      exact se_var a b c d
    · split at h
      · rename_i hg
        obtain ⟨gl, hd⟩ := gloOf_ok g hg
        split at h
        · rename_i d hd2
          cases h
          obtain ⟨v, u, h1, h2, h3⟩ := g.cons (x, d) (mem_of_lookup hd2)
          exact se_glob gl h1 h2 hd h3
        · split at h
          · rename_i hf
            obtain ⟨t, h1, h⟩ := bind_some h
            cases h
            obtain ⟨hv, hn⟩ := tyNm_ok h1
            exact sd_const (pe_bltn gl (g.free x hf) hv (v := .ty t) rfl hn hd) fun _ _ _ q => q _ fun _ => rfl
          · cases h
      · cases h
  · -- BinOp
    obtain ⟨f, h1, h⟩ := bind_some h
    obtain ⟨ma, h2, h⟩ := bind_some h
    obtain ⟨mb, h3, h⟩ := bind_some h
    cases h
    exact se_op (binD_ok h1) (o.E _ _ h2) (o.E _ _ h3)
  · obtain ⟨ma, h2, h⟩ := bind_some h
    cases h
    exact se_un ud_neg (o.E _ _ h2)
  · obtain ⟨ma, h2, h⟩ := bind_some h
    cases h
    exact se_notV (o.E _ _ h2)
  · exact se_bone (o.E _ _ h)
  · obtain ⟨ma, h2, h⟩ := bind_some h
    obtain ⟨mb, h3, h⟩ := bind_some h
    cases h
    exact se_andV (o.E _ _ h2) (o.E _ _ h3)
  · obtain ⟨ma, h2, h⟩ := bind_some h
    obtain ⟨mb, h3, h⟩ := bind_some h
    cases h
    exact se_orV (o.E _ _ h2) (o.E _ _ h3)
  · obtain ⟨hm, h⟩ := ite_some' h
    obtain ⟨ma, h2, h⟩ := bind_some h
    obtain ⟨mb, h3, h⟩ := bind_some h
    cases h
    exact se_cmpO (op_inAll (by have := g.room.units; have := g.room.un; omega)) (rul_in false) (o.O _ _ h2) (o.O _ _ h3) hm
  · obtain ⟨hm, h⟩ := ite_some' h
    obtain ⟨ma, h2, h⟩ := bind_some h
    obtain ⟨mb, h3, h⟩ := bind_some h
    cases h
    exact se_cmpO (op_notInAll (by have := g.room.units; have := g.room.un; omega)) (rul_in true) (o.O _ _ h2) (o.O _ _ h3) hm
  · obtain ⟨f, h1, h⟩ := bind_some h
    obtain ⟨ma, h2, h⟩ := bind_some h
    obtain ⟨mb, h3, h⟩ := bind_some h
    cases h
    obtain ⟨c1, c2, c3⟩ := cmpD_ok g.hu64 h1
    exact se_cmp c1 (o.E _ _ h2) (o.E _ _ h3) (nomark _ c2 c3)
  · obtain ⟨f, h1, h⟩ := bind_some h
    obtain ⟨f', h1', h⟩ := bind_some h
    obtain ⟨ma, h2, h⟩ := bind_some h
    obtain ⟨mb, h3, h⟩ := bind_some h
    obtain ⟨mc, h4, h⟩ := bind_some h
    cases h
    obtain ⟨c1, c2, c3⟩ := cmpD_ok g.hu64 h1
    obtain ⟨d1, d2, d3⟩ := cmpD_ok g.hu64 h1'
    exact se_chain c1 d1 (o.E _ _ h2) (o.E _ _ h3) (o.E _ _ h4) (nomark _ d2 d3)
  · cases h; exact se_dnew
  · obtain ⟨⟨k1, k2, k3, k4⟩, h⟩ := ite_some' h
    obtain ⟨m', h1, h⟩ := bind_some h
    cases h
    exact se_disp (o.D _ _ _ _ h1) k1 k2 k3 k4
  · obtain ⟨mc, h1, h⟩ := bind_some h
    obtain ⟨ma, h2, h⟩ := bind_some h
    obtain ⟨mb, h3, h⟩ := bind_some h
    cases h
    exact se_if (o.t h1) (o.E _ _ h2) (o.E _ _ h3)
  · obtain ⟨m', h1, h⟩ := bind_some h
    cases h
    exact se_tup (o.A _ _ h1)
  · obtain ⟨m', h1, h⟩ := bind_some h
    cases h
    exact se_lst (o.A _ _ h1)
  · obtain ⟨m', h1, h⟩ := bind_some h
    obtain ⟨ml, h2, h⟩ := bind_some h
    obtain ⟨mh, h3, h⟩ := bind_some h
    cases h
    exact se_slice (o.O _ _ h1) (o.P _ _ h2) (o.P _ _ h3)
  · obtain ⟨m', h1, h⟩ := bind_some h
    obtain ⟨ml, h2, h⟩ := bind_some h
    obtain ⟨ms, h3, h⟩ := bind_some h
    cases h
    exact se_step (o.E _ _ h1) (o.P _ _ h2) (o.E _ _ h3)
  · obtain ⟨hs, h⟩ := ite_some' h
    obtain ⟨ma, h2, h⟩ := bind_some h
    obtain ⟨mb, h3, h⟩ := bind_some h
    cases h
    exact se_ix g.hu1 (o.O _ _ h2) (o.O _ _ h3) (plain_ix hs)
  · -- a call by name
    rename_i x p args pos
    obtain ⟨⟨hg, hst⟩, h⟩ := ite_some' h
    obtain ⟨gl, hd⟩ := gloOf_ok g hg
    split at h
    · rename_i fl f hf
      obtain ⟨m', h1, h⟩ := bind_some h
      cases h
      have C := g.fns (x, fl, f) (mem_of_lookup hf)
      cases args with
      | nil =>
        cases n with
        | zero => cases h1
        | succ n => cases h1; exact se_call0 C g.room gl hd
      | cons a es =>
        simp only [List.all_cons, Bool.and_eq_true] at hst
        exact se_call C g.room gl (o.L _ _ _ h1) hd (star_cons es _ hst.1) (star_plain _ _ es hst.2)
    · obtain ⟨⟨hf, hne⟩, h⟩ := ite_some' h
      split at h
      · rename_i a hsa
        obtain ⟨m', h1, h⟩ := bind_some h
        cases h
        obtain ⟨rfl, p2, q2, rfl, k1, k2, k3⟩ := setArg_ok hsa
        exact se_lenSet g.calm gl (g.free _ hf) (gloOf_ok g k1).1 (g.free _ k2) (o.E _ _ h1) (star_cons [] _ k3)
      · obtain ⟨⟨b, id, f⟩, h1, h⟩ := bind_some h
        obtain ⟨m', h2, h⟩ := bind_some h
        cases h
        have B := biD_ok g.calm g.hu65 h1
        cases args with
        | nil => exact absurd rfl hne
        | cons a es =>
          simp only [List.all_cons, Bool.and_eq_true] at hst
          cases b with
          | false =>
            obtain ⟨c1, c2⟩ := B.fn rfl
            exact se_callB c1 gl (g.free x hf) c2 (o.L _ _ _ h2) B.nm hd (star_cons es _ hst.1) (star_plain _ _ es hst.2)
          | true =>
            obtain ⟨c1, c2⟩ := B.ty rfl
            exact se_callTy c1 gl (g.free x hf) c2 (o.L _ _ _ h2) B.nm hd (star_cons es _ hst.1) (star_plain _ _ es hst.2)
  · obtain ⟨⟨hm, hl⟩, h'⟩ := ite_some' h
    subst hm
    obtain ⟨i, h1, h⟩ := bind_some h'
    cases h
    obtain ⟨a, b, c, d⟩ := slotV_ok g h1
    exact se_pop a b c d hl
  · split at h
    · rename_i hx
      obtain ⟨hm, hl, hst⟩ := hx
      subst hm
      obtain ⟨i, h1, h⟩ := bind_some h
      obtain ⟨me, h2, h⟩ := bind_some h
      cases h
      obtain ⟨a, b, c, d⟩ := slotV_ok g h1
      exact se_popAt a b c d (o.E _ _ h2) (few_one _ _ hst) hl (star_cons [] _ hst)
    · obtain ⟨⟨hl, hst⟩, h⟩ := ite_some' h
      obtain ⟨f, h0, h⟩ := bind_some h
      obtain ⟨i, h1, h⟩ := bind_some h
      obtain ⟨ma, h2, h⟩ := bind_some h
      cases h
      obtain ⟨a, b, c, d⟩ := slotV_ok g h1
      obtain ⟨W, w1, w2⟩ := mD_ok (X := X) g.hu65 h0
      exact se_m w1 w2 (so_var a b c d) (o.A _ _ h2) rfl (few_one _ _ hst) hl (star_cons [] _ hst) rfl
  · -- a method
    obtain ⟨⟨hb, hst, hes, hl, h20⟩, h⟩ := ite_some' h
    obtain ⟨f, h0, h⟩ := bind_some h
    obtain ⟨mo, h1, h⟩ := bind_some h
    obtain ⟨ma, h2, h⟩ := bind_some h
    cases h
    obtain ⟨W, w1, w2⟩ := mD_ok (X := X) g.hu65 h0
    exact se_m w1 w2 (o.O _ _ h1) (o.A _ _ h2) hb (few_all _ _ hst hes h20) hl (star_cons _ _ hst) (star_plain _ _ _ hes)
  · -- a list comprehension
    rename_i elt tg iter ifs scope pos
    obtain ⟨⟨hb, hns⟩, h⟩ := ite_some' h
    obtain ⟨⟨pr, mi⟩, h1, h⟩ := bind_some h
    obtain ⟨gg, h2, h⟩ := bind_some h
    obtain ⟨mt, h3, h⟩ := bind_some h
    obtain ⟨me, h4, h⟩ := bind_some h
    cases h
    have ok : BlkOk X.N X.env.scope scope (ownOf ce.N scope) := by
      rw [g.N, g.sc]
      exact blkOk_by hb
    have B : ∀ (s : Shared) (H : Hp) (C : Addr) (cl : List (Str × Addr)) (fp : List Addr), AllOk n (ce.blk scope) (X.blk s H scope (compEnvC scope cl C X.env) fp) := fun s H C cl fp => ih _ _ k (g.blk scope ok.kind s H C cl fp)
    exact se_comp g.calm (by rw [g.N]; exact g.nd) (o.I tg _ _ h1 (cG_tup h2)) ok ⟨fun s H C cl fp => (B s H C cl fp).G _ _ _ h2, fun s H C cl fp => (B s H C cl fp).Ts _ _ h3, fun s H C cl fp => (B s H C cl fp).E _ _ h4⟩ (fold_set _ hns)
  · cases h
theorem okW {n : Nat} (ih : ∀ (ce : CE) (X : Cx) (k : Nat), Good ce X k → AllOk n ce X) {ce : CE} {X : Cx} {k : Nat} (g : Good ce X k) (op : BoolOp) (es : List Expr) (pos : Pos) (m : DenB) (h : cT (n + 1) ce (.BoolOp op es pos) = some m) : SW X (.BoolOp op es pos) m := by
  have o := ih ce X k g
  match op, es, h with
  | .And, [a], h => exact sw_and1 (o.t h)
  | .Or, [a], h => exact sw_or1 (o.t h)
  | .And, a :: b :: es, h =>
    obtain ⟨ma, h1, h⟩ := bind_some h
    obtain ⟨mb, h2, h⟩ := bind_some h
    cases h
    exact sw_and (o.t h1) (o.W _ _ _ _ h2)
  | .Or, a :: b :: es, h =>
    obtain ⟨ma, h1, h⟩ := bind_some h
    obtain ⟨mb, h2, h⟩ := bind_some h
    cases h
    exact sw_or (o.t h1) (o.W _ _ _ _ h2)
  | .And, [], h => cases h
  | .Or, [], h => cases h
theorem all_ok : ∀ (n : Nat) (ce : CE) (X : Cx) (k : Nat), Good ce X k → AllOk n ce X := by
  intro n
  induction n with
  | zero => intro ce X k g; exact ⟨fun _ _ h => (by cases h), fun _ _ h => (by cases h), fun _ _ h => (by cases h), fun _ _ _ _ h => (by cases h), fun _ _ h => (by cases h), fun _ _ _ h => (by cases h), fun _ _ h => (by cases h), fun _ _ h => (by cases h), fun _ _ _ h => (by cases h), fun _ _ h => (by cases h), fun _ _ _ h => (by cases h), fun _ _ _ _ h => (by cases h)⟩
  | succ n ih =>
    intro ce X k g
    have o := ih ce X k g
    refine ⟨fun e m h => okE ih g e m h, fun e m h => ?_, fun e m h => ?_, fun op es pos m h => okW ih g op es pos m h, fun es m h => ?_, fun fl es m h => ?_, fun es m h => ?_, fun e m h => ?_, fun pr e gg h => ?_, fun es gg h => ?_, fun tg e p h ht => ?_, fun pos ks vs m h => ?_⟩
    · unfold cO at h
      split at h
      · split at h
        · obtain ⟨i, h1, h⟩ := bind_some h
          cases h
          obtain ⟨a, b, c, d⟩ := slotV_ok g h1
          exact so_var a b c d
        · obtain ⟨m', h1, h⟩ := bind_some h
          cases h
          exact (o.E _ _ h1).o
      · obtain ⟨m', h1, h⟩ := bind_some h
        cases h
        exact (o.E _ _ h1).o
    · unfold cT at h
      split at h
      · exact (okW ih g _ _ _ _ (by unfold cT; exact h)).t
      · exact (okW ih g _ _ _ _ (by unfold cT; exact h)).t
      · exact (okW ih g _ _ _ _ (by unfold cT; exact h)).t
      · exact (okW ih g _ _ _ _ (by unfold cT; exact h)).t
      · obtain ⟨ma, h1, h⟩ := bind_some h
        cases h
        exact (st_not (o.t h1))
      · obtain ⟨hm, h⟩ := ite_some' h
        obtain ⟨ma, h2, h⟩ := bind_some h
        obtain ⟨mb, h3, h⟩ := bind_some h
        cases h
        exact (st_cmpO (op_inAll (by have := g.room.un; omega)) (rul_in false) (o.O _ _ h2) (o.O _ _ h3) hm)
      · obtain ⟨hm, h⟩ := ite_some' h
        obtain ⟨ma, h2, h⟩ := bind_some h
        obtain ⟨mb, h3, h⟩ := bind_some h
        cases h
        exact (st_cmpO (op_notInAll (by have := g.room.un; omega)) (rul_in true) (o.O _ _ h2) (o.O _ _ h3) hm)
      · obtain ⟨f, h1, h⟩ := bind_some h
        obtain ⟨ma, h2, h⟩ := bind_some h
        obtain ⟨mb, h3, h⟩ := bind_some h
        cases h
        obtain ⟨c1, c2, c3⟩ := cmpD_ok g.hu64 h1
        exact (st_cmp c1 (o.E _ _ h2) (o.E _ _ h3) (nomark _ c2 c3))
      · obtain ⟨f, h1, h⟩ := bind_some h
        obtain ⟨f', h1', h⟩ := bind_some h
        obtain ⟨ma, h2, h⟩ := bind_some h
        obtain ⟨mb, h3, h⟩ := bind_some h
        obtain ⟨mc, h4, h⟩ := bind_some h
        cases h
        obtain ⟨c1, c2, c3⟩ := cmpD_ok g.hu64 h1
        obtain ⟨d1, d2, d3⟩ := cmpD_ok g.hu64 h1'
        exact st_chain c1 d1 (o.E _ _ h2) (o.E _ _ h3) (o.E _ _ h4) (nomark _ d2 d3)
      · obtain ⟨hp, h⟩ := ite_some' h
        obtain ⟨m', h1, h⟩ := bind_some h
        cases h
        exact (st_truth (o.O _ _ h1) (plain_test _ hp))
    · unfold cTs at h
      split at h
      · cases h; exact sts_nil
      · exact sts_one (o.t h)
      · cases h
    · unfold cL at h
      split at h
      · cases h; exact sl_nil
      · obtain ⟨hs, h⟩ := ite_some' h
        obtain ⟨m1, h1, h⟩ := bind_some h
        obtain ⟨r, h2, h⟩ := bind_some h
        cases h
        refine sl_cons ?_ (o.L _ _ _ h2) (star_cons _ _ hs)
        split at h1
        · exact o.O _ _ h1
        · obtain ⟨m', h3, h1⟩ := bind_some h1
          cases h1
          exact (o.E _ _ h3).o
    · unfold cA at h
      split at h
      · cases h; exact sa_nil
      · obtain ⟨hs, h⟩ := ite_some' h
        obtain ⟨m1, h1, h⟩ := bind_some h
        obtain ⟨r, h2, h⟩ := bind_some h
        cases h
        exact sa_cons (o.E _ _ h1) (o.A _ _ h2) (star_cons _ _ hs)
    · unfold cP at h
      split at h
      · cases h; exact sp_none
      · obtain ⟨m1, h1, h⟩ := bind_some h
        cases h
        exact sp_some (o.E _ _ h1)
    · unfold cG at h
      split at h
      · split at h
        · cases h
        · rename_i hp
          obtain ⟨i, h1, h⟩ := bind_some h
          cases h
          obtain ⟨a, b, c, d, _⟩ := slotS_ok g h1
          have : pr = false := by simpa using hp
          subst this
          exact sg_name (by rw [g.N]; exact g.nd) a b c d
      · obtain ⟨gs, h1, h⟩ := bind_some h
        cases h
        obtain ⟨q1, q2⟩ := o.Gs _ _ h1
        have := sg_tup (k := ‹Nat›) (pos := ‹Pos›) g.calm q1 (assignEach_len _ _) (assign_nostar _ _ q2)
        cases pr with
        | true => exact this
        | false => exact this.imp
      · split at h
        · cases h
        · rename_i hp
          simp only [not_or, Bool.not_eq_false, Bool.not_eq_true] at hp
          obtain ⟨i, h1, h⟩ := bind_some h
          obtain ⟨mi, h2, h⟩ := bind_some h
          cases h
          obtain ⟨a, b, c, d⟩ := slotV_ok g h1
          obtain ⟨hp1, hp2⟩ := hp
          subst hp1
          exact sg_subIx g.hu1 a b c d (o.E _ _ h2) (plain_assign _ hp2)
      · cases h
    · unfold cGs at h
      split at h
      · cases h; exact ⟨sgs_nil, rfl⟩
      · obtain ⟨hs, h⟩ := ite_some' h
        obtain ⟨m1, h1, h⟩ := bind_some h
        obtain ⟨r, h2, h⟩ := bind_some h
        cases h
        obtain ⟨q1, q2⟩ := o.Gs _ _ h2
        refine ⟨sgs_cons (o.G _ _ _ h1) q1 ?_, by simp [hs, q2]⟩
        rw [assign_cons _ _ hs]
        rfl
    · unfold cI at h
      split at h
      · rename_i args ha
        obtain ⟨m1, h1, h⟩ := bind_some h
        cases h
        obtain ⟨x, p1, q1, rfl, k1, k2, k3, k4⟩ := itArg_ok ha
        rcases k4 with ⟨rfl, _, k5⟩ | ⟨_, k, _⟩ | ⟨_, k, _⟩
        · obtain ⟨a, rfl⟩ := List.length_eq_one_iff.mp k5
          have ht := ht rfl
          cases tg with
          | Tuple elts kk tp =>
            simp only [List.all_cons, List.all_nil, Bool.and_true] at k3
            exact si_enum (gloOf_ok g k1).1 (g.free _ k2) (o.A _ _ h1) (star_cons [] _ k3)
          | _ => cases ht
        · cases k
        · cases k
      · rename_i args ha
        obtain ⟨m1, h1, h⟩ := bind_some h
        cases h
        obtain ⟨x, p1, q1, rfl, k1, k2, k3, k4⟩ := itArg_ok ha
        rcases k4 with ⟨_, k, _⟩ | ⟨rfl, _, k5⟩ | ⟨_, k, _⟩
        · cases k
        · obtain ⟨a, b, rfl⟩ : ∃ a b, args = [a, b] := by
            match args, k5 with
            | [a, b], _ => exact ⟨a, b, rfl⟩
          have ht := ht rfl
          cases tg with
          | Tuple elts kk tp =>
            simp only [List.all_cons, List.all_nil, Bool.and_true, Bool.and_eq_true] at k3
            exact si_zip (gloOf_ok g k1).1 (g.free _ k2) (o.A _ _ h1) (star_cons _ _ k3.1) (star_plain _ _ [b] (by simp [k3.2]))
          | _ => cases ht
        · cases k
      · rename_i a ha
        obtain ⟨m1, h1, h⟩ := bind_some h
        cases h
        obtain ⟨x, p1, q1, rfl, k1, k2, k3, k4⟩ := itArg_ok ha
        rcases k4 with ⟨_, k, _⟩ | ⟨_, k, _⟩ | ⟨rfl, _, k5⟩
        · cases k
        · cases k
        · simp only [List.all_cons, List.all_nil, Bool.and_true] at k3
          exact si_rev (gloOf_ok g k1).1 (g.free _ k2) (o.E _ _ h1) (star_cons [] _ k3)
      · obtain ⟨m1, h1, h⟩ := bind_some h
        cases h
        exact si_val (o.E _ _ h1)
    · unfold cD at h
      split at h
      · cases h; exact spp_nil
      · obtain ⟨mk, h1, h⟩ := bind_some h
        obtain ⟨mv, h2, h⟩ := bind_some h
        obtain ⟨r, h3, h⟩ := bind_some h
        cases h
        exact spp_cons (o.E _ _ h1) (o.E _ _ h2) (o.D _ _ _ _ h3)
      · cases h
end VI

set_option Elab.async false
set_option linter.all false
set_option maxRecDepth 100000
set_option maxHeartbeats 4000000
/-! VQ: the compiler for statements, and that it is right -/
namespace VI
open PySem PySem.Spec L2
open PyProof.Rows hiding St

/-- name = [..] in one with its end -/
def swOk (sc : Scope) (y : Str) (py : Pos) (scope : Scope) (pos : Pos) : Bool :=
  decide (sc.names.lookup y = some .local) && (py.line == pos.line) && !(scope.names.any fun (n, k) => n == y && (k == .local || k == .cell))
/-- the store of y stands behind the value's end -/
def noSw (sc : Scope) (y : Str) (py : Pos) : Expr → Bool
  | .ListComp _ _ scope pos => !(swOk sc y py scope pos)
  | .SetComp _ _ _ _ => false
  | .DictComp _ _ _ _ _ => false
  | _ => true
theorem no_sw {sc : Scope} {y : Str} {py : Pos} {e : Expr} {l : Nat} {env : Env} (hs : env.scope = sc) (hk : env.scope.kind = .function) (h : noSw sc y py e = true) : swapsWith e (some (.Name y py)) l env = pure false := by
  subst hs
  cases e with
  | ListComp elt gs scope pos =>
    have h : (!(swOk env.scope y py scope pos)) = true := h
    have hb : env.blockKind = .function := by unfold Env.blockKind; rw [hk]; rfl
    unfold swapsWith
    show (pure (env.blockKind == .function && env.kindOf y == some .local && py.line == (Expr.ListComp elt gs scope pos).pos.line && !(scope.names.any fun (n, k) => n == y && (k == .local || k == .cell))) : Sem Bool) = pure false
    congr 1
    rw [hb]
    unfold swOk at h
    have e1 : (env.kindOf y == some .local) = decide (env.scope.names.lookup y = some .local) := by
      unfold Env.kindOf
      by_cases q : env.scope.names.lookup y = some .local
      · rw [q]; rfl
      · rw [decide_eq_false q]; exact beq_eq_false_iff_ne.mpr q
    rw [e1]
    show (true && decide (env.scope.names.lookup y = some .local) && py.line == pos.line && !(scope.names.any fun (n, k) => n == y && (k == .local || k == .cell))) = false
    rw [Bool.true_and]
    exact Bool.not_eq_true' _ |>.mp h
  | SetComp _ _ _ _ => cases h
  | DictComp _ _ _ _ _ => cases h
  | _ => rfl
def notNm : Expr → Bool
  | .Name _ _ => false
  | _ => true
theorem no_swap_tg {t e : Expr} (l : Nat) (env : Env) (h : notNm t = true) : swapsWithSole [t] e l env = pure false := by
  show swapsWith e (some t) l env = pure false
  unfold swapsWith
  cases e <;> first | rfl | (cases t <;> first | rfl | cases h)
def cRet (n : Nat) (ce : CE) (e : Expr) : Option DenS := match e with
  | .Name x p => if visOf ce.sc x = true then (slotV ce x).bind fun i => if ce.np ≤ i then some (sRetV i) else (cE n ce (.Name x p)).bind fun m => some (sRet m) else (cE n ce (.Name x p)).bind fun m => some (sRet m)
  | e => (cE n ce e).bind fun m => some (sRet m)
def cExp (n : Nat) (ce : CE) (e : Expr) : Option DenS := match e with
  | .Constant (.str _) _ _ => some sNil
  | .Call (.Attribute (.Name x _) m apos) [e] [] cpos => if m = "append" ∧ (apos.endLine == cpos.line) = true ∧ notStar e = true then (slotV ce x).bind fun i => (cE n ce e).bind fun me => some (sAppend i me) else none
  | e => if notComp e = true then (cE n ce e).bind fun m => some (sExpr m) else none
def cSetComp (n : Nat) (ce : CE) (y : Str) (py : Pos) (e : Expr) : Option DenS := match e with
  | .ListComp elt [⟨tg, iter, ifs, 0⟩] scope pos => if swOk ce.sc y py scope pos = true ∧ blkC ce.N ce.sc scope (ownOf ce.N scope) = true ∧ notSet iter = true then
      (slotS ce y).bind fun i => (cI n ce iter).bind fun mi => (cG n (ce.blk scope) mi.1 tg).bind fun g => (cTs n (ce.blk scope) ifs).bind fun mt => (cE n (ce.blk scope) elt).bind fun me => some (sSet i (dComp ((ownOf ce.N scope).map (·.2)) mi.2 g mt me)) else none
  | _ => none
def cPar (n : Nat) (ce : CE) (ts : List Expr) (e : Expr) : Option DenS := match ts, e with
  | [.Name x px, .Name y py], .Tuple [a, b] _ _ => if parOk ce.sc x y px py a b = true ∧ notStar a = true ∧ notStar b = true then (slotS ce x).bind fun i => (slotS ce y).bind fun j => (cE n ce a).bind fun ma => (cE n ce b).bind fun mb => if i ≠ j then some (sPar i j ma mb) else none else none
  | _, _ => none
/-- the value is stored as it is taken apart -/
def serOk (sc : Scope) (ts : List Expr) (e : Expr) : Bool := match e with
  | .Tuple _ _ _ => ts.any (notLoc sc)
  | _ => true
def cAsg (n : Nat) (ce : CE) (tg e : Expr) : Option DenS := match tg with
  | .Name y py => if noSw ce.sc y py e = true then (slotS ce y).bind fun i => (cE n ce e).bind fun m => some (sSet i m) else cSetComp n ce y py e
  | .Subscript (.Name x _) b _ => if notSlice b = true then (slotV ce x).bind fun i => (cE n ce b).bind fun mi => (cE n ce e).bind fun me => some (sSetIx i mi me) else none
  | .Tuple ts k p => if serOk ce.sc ts e = true then (cE n ce e).bind fun m => (cG n ce false (.Tuple ts k p)).bind fun g => some (sAsgG m g) else cPar n ce ts e
  | _ => none
def cAug (n : Nat) (ce : CE) (tg : Expr) (op : Operator) (e : Expr) : Option DenS := match tg with
  | .Name x _ => (augD op).bind fun q => (slotS ce x).bind fun i => (cE n ce e).bind fun m => some (sAug q.1 q.2 i m)
  | .Subscript (.Name x _) b _ => if notSlice b = true then (augD op).bind fun q => (slotV ce x).bind fun i => (cE n ce b).bind fun mi => (cE n ce e).bind fun me => some (sAugIx q.2 i mi me) else none
  | _ => none
mutual
noncomputable def cS : Nat → CE → Stmt → Option DenS
  | 0, _, _ => none
  | n + 1, ce, st => match st with
    | .Pass _ => some (sC .nx)
    | .Break _ => some (sC .bk)
    | .Continue _ => some (sC .ct)
    | .Raise _ _ _ => some sNever
    | .Return none _ => some (sC (.rt (.lf .non)))
    | .Return (some e) _ => cRet n ce e
    | .Expr e _ => cExp n ce e
    | .Assign [tg] e _ => cAsg n ce tg e
    | .AugAssign tg op e _ => cAug n ce tg op e
    | .If c a b _ => (cT n ce c).bind fun mc => (cSs n ce a).bind fun m => (cSs n ce b).bind fun k => some (dIf mc m k)
    | .While c a [] _ => (cT n ce c).bind fun mc => (cSs n ce a).bind fun m => some (sWhile mc m)
    | .For tg iter a [] _ => if notSet iter = true then (cI n ce iter).bind fun mi => (cG n ce mi.1 tg).bind fun g => (cSs n ce a).bind fun m => some (sFor mi.2 g m) else none
    | _ => none
noncomputable def cSs : Nat → CE → List Stmt → Option DenS
  | 0, _, _ => none
  | n + 1, ce, sts => match sts with
    | [] => some sNil
    | st :: r => (cS n ce st).bind fun m => (cSs n ce r).bind fun k => some (sSeq m k)
end

section
variable {ce : CE} {X : Cx} {k n : Nat}
theorem cRet_ok (g : Good ce X k) (o : AllOk n ce X) {e : Expr} {pos : Pos} {m : DenS} (h : cRet n ce e = some m) : SS X ce.A (.Return (some e) pos) m := by
  have gen : ∀ e m, ((cE n ce e).bind fun m => some (sRet m)) = some m → SS X ce.A (.Return (some e) pos) m := fun e m h => by
    obtain ⟨m', h1, h⟩ := bind_some h
    cases h
    exact ss_ret (o.E _ _ h1)
  unfold cRet at h
  split at h
  · split at h
    · obtain ⟨i, h1, h⟩ := bind_some h
      obtain ⟨a, b, c, d⟩ := slotV_ok g h1
      split at h
      · cases h
        exact ss_retV a b c d
      · exact gen _ _ h
    · exact gen _ _ h
  · exact gen _ _ h
theorem cExp_ok (g : Good ce X k) (o : AllOk n ce X) {e : Expr} {pos : Pos} {m : DenS} (h : cExp n ce e = some m) : SS X ce.A (.Expr e pos) m := by
  unfold cExp at h
  split at h
  · cases h; exact ss_doc
  · obtain ⟨⟨hm, hl, hst⟩, h'⟩ := ite_some' h
    subst hm
    obtain ⟨i, h1, h⟩ := bind_some h'
    obtain ⟨me, h2, h⟩ := bind_some h
    cases h
    obtain ⟨a, b, c, d⟩ := slotV_ok g h1
    exact ss_append a b c d (o.E _ _ h2) (few_one _ _ hst) hl (star_cons [] _ hst)
  · obtain ⟨hc, h⟩ := ite_some' h
    obtain ⟨m', h1, h⟩ := bind_some h
    cases h
    exact ss_expr (o.E _ _ h1) (no_swap _ _ _ hc)
theorem cSetComp_ok (g : Good ce X k) {y : Str} {py : Pos} {e : Expr} {pos : Pos} {m : DenS} (h : cSetComp n ce y py e = some m) : SS X ce.A (.Assign [.Name y py] e pos) m := by
  have o := all_ok n ce X k g
  unfold cSetComp at h
  split at h
  · rename_i elt tg iter ifs scope cpos
    obtain ⟨⟨hsw, hb, hns⟩, h⟩ := ite_some' h
    obtain ⟨i, h0, h⟩ := bind_some h
    obtain ⟨⟨pr, mi⟩, h1, h⟩ := bind_some h
    obtain ⟨gg, h2, h⟩ := bind_some h
    obtain ⟨mt, h3, h⟩ := bind_some h
    obtain ⟨me, h4, h⟩ := bind_some h
    cases h
    have ok : BlkOk X.N X.env.scope scope (ownOf ce.N scope) := by
      rw [g.N, g.sc]
      exact blkOk_by hb
    have B : ∀ (s : Shared) (H : Hp) (C : Addr) (cl : List (Str × Addr)) (fp : List Addr), AllOk n (ce.blk scope) (X.blk s H scope (compEnvC scope cl C X.env) fp) := fun s H C cl fp => all_ok n _ _ k (g.blk scope ok.kind s H C cl fp)
    unfold swOk at hsw
    simp only [Bool.and_eq_true, decide_eq_true_eq, Bool.not_eq_true'] at hsw
    obtain ⟨⟨s1, s2⟩, s3⟩ := hsw
    obtain ⟨a, b, c, d, _⟩ := slotS_ok g h0
    have s1' : X.env.scope.names.lookup y = some .local := by rw [g.sc]; exact s1
    exact ss_setComp g.calm (by rw [g.N]; exact g.nd) a s1' (sw_true g.kind s1' s2 s3) c (o.I tg _ _ h1 (cG_tup h2)) ok ⟨fun s H C cl fp => (B s H C cl fp).G _ _ _ h2, fun s H C cl fp => (B s H C cl fp).Ts _ _ h3, fun s H C cl fp => (B s H C cl fp).E _ _ h4⟩ (fold_set _ hns)
  · cases h
theorem cPar_ok (g : Good ce X k) (o : AllOk n ce X) {ts : List Expr} {e : Expr} {kt : Nat} {p pos : Pos} {m : DenS} (h : cPar n ce ts e = some m) : SS X ce.A (.Assign [.Tuple ts kt p] e pos) m := by
  unfold cPar at h
  split at h
  · obtain ⟨⟨hp, st1, st2⟩, h⟩ := ite_some' h
    obtain ⟨i, h1, h⟩ := bind_some h
    obtain ⟨j, h2, h⟩ := bind_some h
    obtain ⟨ma, h3, h⟩ := bind_some h
    obtain ⟨mb, h4, h⟩ := bind_some h
    obtain ⟨hij, h⟩ := ite_some h
    cases h
    obtain ⟨a1, b1, c1, d1, _⟩ := slotS_ok g h1
    obtain ⟨a2, b2, c2, d2, _⟩ := slotS_ok g h2
    have hp' := hp
    unfold parOk at hp'
    simp only [Bool.and_eq_true, decide_eq_true_eq] at hp'
    obtain ⟨⟨⟨⟨⟨⟨⟨q1, q2⟩, _⟩, _⟩, _⟩, _⟩, _⟩, _⟩ := hp'
    exact ss_par g.calm (by rw [g.N]; exact g.nd) a1 a2 hij (by rw [g.sc]; exact q1) (by rw [g.sc]; exact q2) c1 c2 (o.E _ _ h3) (o.E _ _ h4) (star_cons [_] _ st1) (star_cons [] _ st2) (par_ok g.sc g.kind hp)
  · cases h
theorem ser_ok {ts : List Expr} {e : Expr} {kt : Nat} {p : Pos} {env : Env} {sc : Scope} (hs : env.scope = sc) (h : serOk sc ts e = true) : swappedStores [.Tuple ts kt p] e env = pure none := by
  unfold serOk at h
  split at h
  · exact no_par_loc hs h
  · rename_i hx
    exact no_par _ _ (by
      cases e <;> first | rfl | exact absurd rfl (hx _ _ _))
theorem cAsg_ok (g : Good ce X k) {tg e : Expr} {pos : Pos} {m : DenS} (h : cAsg n ce tg e = some m) : SS X ce.A (.Assign [tg] e pos) m := by
  have o := all_ok n ce X k g
  unfold cAsg at h
  split at h
  · split at h
    · rename_i hc
      obtain ⟨i, h0, h⟩ := bind_some h
      obtain ⟨me, h1, h⟩ := bind_some h
      cases h
      obtain ⟨a, b, c, d, _⟩ := slotS_ok g h0
      exact ss_set (by rw [g.N]; exact g.nd) a b c (o.E _ _ h1) (no_sw g.sc g.kind hc) d
    · exact cSetComp_ok g h
  · obtain ⟨hn, h⟩ := ite_some' h
    obtain ⟨i, h0, h⟩ := bind_some h
    obtain ⟨mi, h1, h⟩ := bind_some h
    obtain ⟨me, h2, h⟩ := bind_some h
    cases h
    obtain ⟨a, b, c, d⟩ := slotV_ok g h0
    exact ss_setIx g.hu1 a b c d (o.E _ _ h1) (o.E _ _ h2) (plain_assign _ hn) (no_swap_tg _ _ rfl) (no_par_sub _ _)
  · split at h
    · rename_i hs
      obtain ⟨me, h1, h⟩ := bind_some h
      obtain ⟨gg, h2, h⟩ := bind_some h
      cases h
      exact ss_asgG (o.E _ _ h1) (o.G _ _ _ h2) (no_swap_tg _ _ rfl) (ser_ok g.sc hs) rfl
    · exact cPar_ok g o h
  · cases h
theorem cAug_ok (g : Good ce X k) (o : AllOk n ce X) {tg e : Expr} {op : Operator} {pos : Pos} {m : DenS} (h : cAug n ce tg op e = some m) : SS X ce.A (.AugAssign tg op e pos) m := by
  unfold cAug at h
  split at h
  · obtain ⟨q, h0, h⟩ := bind_some h
    obtain ⟨i, h1, h⟩ := bind_some h
    obtain ⟨me, h2, h⟩ := bind_some h
    cases h
    obtain ⟨p1, p2⟩ := augD_ok (X := X) h0
    obtain ⟨a, b, c, d, _⟩ := slotS_ok g h1
    exact ss_aug p1 p2 (by rw [g.N]; exact g.nd) a b c (o.E _ _ h2) d
  · obtain ⟨hn, h⟩ := ite_some' h
    obtain ⟨q, h0, h⟩ := bind_some h
    obtain ⟨i, h1, h⟩ := bind_some h
    obtain ⟨mi, h2, h⟩ := bind_some h
    obtain ⟨me, h3, h⟩ := bind_some h
    cases h
    obtain ⟨p1, p2⟩ := augD_ok (X := X) h0
    obtain ⟨a, b, c, d⟩ := slotV_ok g h1
    exact ss_augIx g.hu1 p1 a b c d (o.E _ _ h2) (o.E _ _ h3) (plain_aug hn)
  · cases h
end
theorem cS_ok : ∀ (n : Nat) (ce : CE) (X : Cx) (k : Nat), Good ce X k → PassesOwn (model X.prog X.w) X.A X.env X.xe → (∀ st m, cS n ce st = some m → SS X ce.A st m) ∧ ∀ sts m, cSs n ce sts = some m → SSs X ce.A sts m := by
  intro n
  induction n with
  | zero => intro ce X k g hp; exact ⟨fun _ _ h => (by cases h), fun _ _ h => (by cases h)⟩
  | succ n ih =>
    intro ce X k g hp
    have o := all_ok n ce X k g
    obtain ⟨i1, i2⟩ := ih ce X k g hp
    refine ⟨fun st m h => ?_, fun sts m h => ?_⟩
    · unfold cS at h
      split at h
      · cases h; exact ss_pass
      · cases h; exact ss_break
      · cases h; exact ss_continue
      · cases h; exact ss_never
      · cases h; exact ss_retN
      · exact cRet_ok g o h
      · exact cExp_ok g o h
      · exact cAsg_ok g h
      · exact cAug_ok g o h
      · obtain ⟨mc, h1, h⟩ := bind_some h
        obtain ⟨ma, h2, h⟩ := bind_some h
        obtain ⟨mb, h3, h⟩ := bind_some h
        cases h
        exact ss_if (o.t h1) (i2 _ _ h2) (i2 _ _ h3)
      · obtain ⟨mc, h1, h⟩ := bind_some h
        obtain ⟨ma, h2, h⟩ := bind_some h
        cases h
        exact ss_while hp (o.t h1) (i2 _ _ h2)
      · obtain ⟨hs, h⟩ := ite_some' h
        obtain ⟨⟨pr, mi⟩, h1, h⟩ := bind_some h
        obtain ⟨gg, h2, h⟩ := bind_some h
        obtain ⟨ma, h3, h⟩ := bind_some h
        cases h
        exact ss_for hp g.calm (o.I _ _ _ h1 (cG_tup h2)) (o.G _ _ _ h2) (i2 _ _ h3) (fold_set _ hs)
      · cases h
    · unfold cSs at h
      split at h
      · cases h; exact ss_nil
      · obtain ⟨ma, h1, h⟩ := bind_some h
        obtain ⟨mb, h2, h⟩ := bind_some h
        cases h
        exact ss_cons (i1 _ _ h1) (i2 _ _ h2)
end VI

set_option Elab.async false
set_option linter.all false
set_option maxRecDepth 100000
set_option maxHeartbeats 4000000
/-! VR: defs by their texts; the law's end -/
namespace VI
open PySem PySem.Spec L2
open PyProof.Rows hiding St

/-- a def of the program that may be called, apart from any frame -/
structure CalW (P : Program) (w : World) (K : PySem.W.Frag) (mg : Str → Option Value) (base : Heap) (k : Nat) (x : Str) (g : Fn) : Prop where
  ex : ∃ (f : Addr) (fd : FuncData) (ps : List Str), mg x = some (.ref f) ∧ FnOk P w K mg base CX0 k f fd ps (spF ⟨K, mg⟩ g) ∧ PySem.W.keepIn K (.ref f) = true ∧ Binds K fd ps []
section
variable {P : Program} {w : World} {K : PySem.W.Frag} {mg : Str → Option Value} {base : Heap}
theorem CalW.mono {j k : Nat} {x : Str} {g : Fn} (h : CalW P w K mg base j x g) (jk : j ≤ k) : CalW P w K mg base k x g := by
  obtain ⟨f, fd, ps, a, b, c, d⟩ := h.ex
  exact ⟨f, fd, ps, a, b.mono jk, c, d⟩
theorem CalW.imp {k : Nat} {x : Str} {g g' : Fn} (h : CalW P w K mg base k x g) (e : ∀ ts r, g' ts = some r → g ts = some r) : CalW P w K mg base k x g' := by
  obtain ⟨f, fd, ps, a, b, c, d⟩ := h.ex
  refine ⟨f, fd, ps, a, b.imp fun vs H Q E h => ?_, c, d⟩
  obtain ⟨F, ts, t, ts', h1, h2, h3⟩ := h
  exact ⟨F, ts, t, ts', h1, e _ _ h2, h3⟩
/-- what the module's names stand for -/
structure ConsW (K : PySem.W.Frag) (mg : Str → Option Value) (x : Str) (d : D) : Prop where
  ex : ∃ v u, mg x = some u ∧ RelV v u ∧ ∀ F, RepD ⟨K, mg⟩ F d v
/-- all that a def's body leans on -/
structure Leans (P : Program) (w : World) (K : PySem.W.Frag) (mg : Str → Option Value) (base : Heap) (k : Nat) (ce : CE) : Prop where
  fns : ∀ p ∈ ce.fns, CalW P w K mg base k p.1 p.2.2
  cons : ∀ p ∈ ce.cons, ConsW K mg p.1 p.2
  free : ∀ x ∈ ce.free, mg x = none
theorem Leans.good {k : Nat} {ce : CE} (L : Leans P w K mg base k ce) (nd : ce.N.Nodup) (kd : ce.sc.kind = .function) {qual : Str} {f : Addr} {cd : Value} {A : Around} {outer : List Env} {s : Shared} {H : Hp} {E : XK}
    (hr : Room k (A.deeper (envOfC qual ce.sc s.heap.objs.size f cd))) : Good ce (cxOf CX0 P w K mg base ce.N qual ce.sc f cd A outer s H E).nox k where
  N := rfl
  nd := nd
  sc := rfl
  kind := kd
  calm := rfl
  room := hr
  own := fun _ _ => rfl
  fns := fun p hp => let ⟨f, fd, ps, a, b, c, d⟩ := (L.fns p hp).ex; ⟨f, fd, ps, a, b, c, d⟩
  cons := fun p hp => (L.cons p hp).ex
  free := L.free
/-- the text and the place of a def -/
structure DefOk (ce : CE) (ps : List Str) (x : Str) (params : Arguments) : Prop where
  sc : FnScope ce.N ps ce.sc
  len : ps.length ≤ ce.N.length
  bind : ∀ (qual : Str) (body : List Stmt) (kV doc pm : Value) (an : Option Addr) (cdv ct : Value) (us : List Value), us.length = ps.length → bindArgs (PySem.W.fnOf x qual params body ce.sc .none kV doc pm an cdv ct) ⟨us, []⟩ = pure (ps.zip us)
theorem FunD.fnOk {k n : Nat} {ce : CE} {x qual : Str} {params : Arguments} {body : List Stmt} {ps : List Str} {kws : List (Str × V)} {f : Addr} {fd : FuncData} {m : DenS} (F : FunD K x qual params body ce.sc [] kws f fd) (S : DefOk ce ps x params) (L : Leans P w K mg base k ce) (hm : cSs n ce body = some m) :
    FnOk P w K mg base CX0 (k + 1) f fd ps (spF ⟨K, mg⟩ (fnDen ce.A ps.length ce.N.length m)) :=
  F.ok S.sc spF_len fun cdv A outer s H vs Q E hr h => by
    have g := L.good S.sc.nd S.sc.kind (outer := outer) (H := H) (E := E) hr
    obtain ⟨t, p, q⟩ := fn_body (k := k) ((cS_ok n ce _ k g .never).2 _ _ hm) S.len h
    exact ⟨t, PSs.nox p, q⟩
theorem FunD.calW {k n : Nat} {ce : CE} {x qual : Str} {params : Arguments} {body : List Stmt} {ps : List Str} {kws : List (Str × V)} {f : Addr} {fd : FuncData} {m : DenS} (F : FunD K x qual params body ce.sc [] kws f fd) (S : DefOk ce ps x params) (L : Leans P w K mg base k ce) (hm : cSs n ce body = some m)
    {y : Str} (hf : mg y = some (.ref f)) : CalW P w K mg base (k + 1) y (fnDen ce.A ps.length ce.N.length m) :=
  ⟨f, fd, ps, hf, FunD.fnOk F S L hm, F.kp, F.bindsN fun kV doc pm an cdv ct us hl => S.bind qual body kV doc pm an cdv ct us hl⟩
theorem DefOk.scope {ce : CE} {ps : List Str} {x : Str} {params : Arguments} (h : DefOk ce ps x params) : FnScope ce.N ps ce.sc := h.sc
/-! ### the law -/
/-- of a script the law gives True -/
def LawF (g : Fn) : Prop := ∀ ns : List Int, ns.length ≤ 63 → ∃ ts', g [.lf (.scr ns)] = some (.lf (.bl true), ts')
theorem LawF.sp {g : Fn} (h : LawF g) {H : Hp} {a : Addr} {ns : List Int} (hl : ns.length ≤ 63) (hO : Only H) (hS : SqL K H a (ns.map V.int)) : spF ⟨K, mg⟩ g [.ref a] H (fun v _ => v = .bl true) fun _ _ _ => False := by
  obtain ⟨ts', e⟩ := h ns hl
  refine ⟨H, _, _, ts', ⟨rfl, fun _ _ h => .inl h, fun i t e => ?_, fun i j t u x ne ei oi si ej oj sj => ?_⟩, e, fun v F' H' p => p.rep⟩
  · match i, e with
    | 0, e => cases e; exact ⟨.ref a, rfl, a, rfl, hS⟩
    | i + 1, e => simp at e
  · match i, ei with
    | 0, ei => cases ei; cases oi
    | i + 1, ei => simp at ei
theorem law_end {l : PySem.W.OpenLaw} {k : Nat} {q : Program} {loose : List Str} {XP : (Str → Option Value) → Heap → Prop} {YP : World → Heap → Prop} {d : DefRec} {g : Fn} {x : Str}
    (hn : l.most = some 63) (hdf : d.params.defaults = []) (hr : Room k callerA) (hg : LawF g)
    (F : ∀ (w : World) (mg : Str → Option Value) (fa : Addr) (h : Heap), YP w h → h.Ns mainGlobals mg → mg d.name = some (.ref fa) →
      ∃ (K : PySem.W.Frag) (fd : FuncData), K.In h ∧ (∀ (s : Shared) (u : Value), BindsTo s fd ⟨[u], []⟩ [(x, u)]) ∧
        ∀ base : Heap, K.In base → base.Ns mainGlobals mg → FnOk l.prog w K mg base CX0 k fa fd [x] (spF ⟨K, mg⟩ g)) :
    PySem.W.WalkO q loose XP YP l.row.toRowW d [] (fun f vs => PySem.call f vs) :=
  walk_ofE (CX := CX0) hn (by decide) hdf hr (fun w mg fa h Y G hmg => let ⟨K, fd, KX, hb, hF⟩ := F w mg fa h Y G hmg; ⟨K, fd, spF ⟨K, mg⟩ g, KX, hb, fun H a ns hl hO hS => hg.sp hl hO hS, hF⟩) (fun _ _ _ _ z => z)
end
end VI

set_option Elab.async false
set_option linter.all false
set_option maxRecDepth 100000
set_option maxHeartbeats 4000000
/-! PL: running meanings by rewriting: no program, no machine from here on -/
namespace VI
open PySem L2
open PyProof.Rows hiding St

section
variable {α : Type} {ρ ρ' : En} {d x y : D} {ds : List D} {t u : T} {i : Nat} {b : Bool}
/-! ### values -/
def sT : T → D := T.strip
@[simp] theorem strip_lf : sT (T.lf d) = d := (rfl)
@[simp] theorem strip_lst : sT (T.lst ds) = .lst ds := (rfl)
@[simp] theorem strip_dct {ks : List Key} : sT (T.dct ks ds) = .dct ks ds := (rfl)
@[simp] theorem own_lf : (T.lf d).own = false := (rfl)
@[simp] theorem own_lst : (T.lst ds).own = true := (rfl)
@[simp] theorem own_dct {ks : List Key} : (T.dct ks ds).own = true := (rfl)
/-! ### slots -/
def xHere : Option (Option T) → Option T := fun o => o.bind id
@[simp] theorem here_ev : here i ρ = xHere ρ[i]? := (rfl)
@[simp] theorem xHere_ev : xHere (some (some t)) = some t := (rfl)
def xVar (i : Nat) (ρ : En) : Option (Option T) → Option (T × En) := fun o => match o with
  | some (some (.lf d)) => some (.lf d, ρ)
  | some (some t) => some (.lf (sT t), ρ.set i (some (.lf (sT t))))
  | _ => none
@[simp] theorem dVar_ev : dVar i ρ = xVar i ρ ρ[i]? := (rfl)
@[simp] theorem xVar_lf : xVar i ρ (some (some (.lf d))) = some (.lf d, ρ) := (rfl)
@[simp] theorem xVar_lst : xVar i ρ (some (some (.lst ds))) = some (.lf (.lst ds), ρ.set i (some (.lf (.lst ds)))) := (rfl)
@[simp] theorem xVar_dct {ks : List Key} : xVar i ρ (some (some (.dct ks ds))) = some (.lf (.dct ks ds), ρ.set i (some (.lf (.dct ks ds)))) := (rfl)
def xSl (i : Nat) (ρ : En) : Option (Option T) → Option (LV × En) := fun o => match o with
  | some (some _) => some (.sl i, ρ)
  | _ => none
@[simp] theorem dSl_ev : dSl i ρ = xSl i ρ ρ[i]? := (rfl)
@[simp] theorem xSl_ev : xSl i ρ (some (some t)) = some (.sl i, ρ) := (rfl)
def xAt : Option (Option T) → Option D := fun o => match o with
  | some (some t) => some (sT t)
  | _ => none
@[simp] theorem at_va : LV.at_ (.va d) ρ = some d := (rfl)
@[simp] theorem at_sl : LV.at_ (.sl i) ρ = xAt ρ[i]? := (rfl)
@[simp] theorem xAt_ev : xAt (some (some t)) = some (sT t) := (rfl)
/-! ### expressions -/
def xPut (o : Option T) (ρ : En) : Option (T × En) := o.bind fun t => some (t, ρ)
@[simp] theorem xPut_ev : xPut (some t) ρ = some (t, ρ) := (rfl)
def xD (o : Option (T × En)) : Option (D × En) := o.bind fun p => some ((sT p.1), p.2)
@[simp] theorem dD_ev {m : Den} : dD m ρ = xD (m ρ) := (rfl)
@[simp] theorem xD_ev : xD (some (t, ρ)) = some ((sT t), ρ) := (rfl)
@[simp] theorem dC_ev : dC d ρ = some (.lf d, ρ) := (rfl)
def xBin2 (g : D → D → Option T) (x : D) (o : Option (D × En)) : Option (T × En) := o.bind fun q => xPut (g x q.1) q.2
def xBin1 (g : D → D → Option T) (mb : Den) (o : Option (D × En)) : Option (T × En) := o.bind fun p => xBin2 g p.1 (dD mb p.2)
@[simp] theorem dBin_ev {g : D → D → Option T} {ma mb : Den} : dBin g ma mb ρ = xBin1 g mb (dD ma ρ) := (rfl)
@[simp] theorem xBin1_ev {g : D → D → Option T} {mb : Den} : xBin1 g mb (some (x, ρ)) = xBin2 g x (dD mb ρ) := (rfl)
@[simp] theorem xBin2_ev {g : D → D → Option T} : xBin2 g x (some (y, ρ)) = xPut (g x y) ρ := (rfl)
def xUn (g : D → Option T) (o : Option (D × En)) : Option (T × En) := o.bind fun p => xPut (g p.1) p.2
@[simp] theorem dUn_ev {g : D → Option T} {ma : Den} : dUn g ma ρ = xUn g (dD ma ρ) := (rfl)
@[simp] theorem xUn_ev {g : D → Option T} : xUn g (some (x, ρ)) = xPut (g x) ρ := (rfl)
def xBl (o : Option (T × En)) : Option (Bool × En) := o.bind fun p => match p.1 with
  | .lf (.bl b) => some (b, p.2)
  | _ => none
@[simp] theorem dBl_ev {m : Den} : dBl m ρ = xBl (m ρ) := (rfl)
@[simp] theorem xBl_ev : xBl (some (.lf (.bl b), ρ)) = some (b, ρ) := (rfl)
def xO (o : Option (D × En)) : Option (LV × En) := o.bind fun p => some (.va p.1, p.2)
@[simp] theorem dO_ev {m : Den} : dO m ρ = xO (dD m ρ) := (rfl)
@[simp] theorem xO_ev : xO (some (d, ρ)) = some (.va d, ρ) := (rfl)
def xBO3 (g : D → D → Option T) (o : Option D) (o2 : Option D) (ρ : En) : Option (T × En) := o.bind fun x => o2.bind fun y => xPut (g x y) ρ
def xBO2 (g : D → D → Option T) (l : LV) (o : Option (LV × En)) : Option (T × En) := o.bind fun q => xBO3 g (l.at_ q.2) (q.1.at_ q.2) q.2
def xBO1 (g : D → D → Option T) (mb : DenO) (o : Option (LV × En)) : Option (T × En) := o.bind fun p => xBO2 g p.1 (mb p.2)
@[simp] theorem dBinO_ev {g : D → D → Option T} {ma mb : DenO} : dBinO g ma mb ρ = xBO1 g mb (ma ρ) := (rfl)
@[simp] theorem xBO1_ev {g : D → D → Option T} {mb : DenO} {l : LV} : xBO1 g mb (some (l, ρ)) = xBO2 g l (mb ρ) := (rfl)
@[simp] theorem xBO2_ev {g : D → D → Option T} {l l2 : LV} : xBO2 g l (some (l2, ρ)) = xBO3 g (l.at_ ρ) (l2.at_ ρ) ρ := (rfl)
@[simp] theorem xBO3_ev {g : D → D → Option T} : xBO3 g (some x) (some y) ρ = xPut (g x y) ρ := (rfl)
def xCL2 (l : LV) (o : Option (List LV × En)) : Option (List LV × En) := o.bind fun q => some (l :: q.1, q.2)
def xCL1 (r : DenL) (o : Option (LV × En)) : Option (List LV × En) := o.bind fun p => xCL2 p.1 (r p.2)
@[simp] theorem dNilL_ev : dNilL ρ = some ([], ρ) := (rfl)
@[simp] theorem dConsL_ev {m : DenO} {r : DenL} : dConsL m r ρ = xCL1 r (m ρ) := (rfl)
@[simp] theorem xCL1_ev {r : DenL} {l : LV} : xCL1 r (some (l, ρ)) = xCL2 l (r ρ) := (rfl)
@[simp] theorem xCL2_ev {l : LV} {ls : List LV} : xCL2 l (some (ls, ρ)) = some (l :: ls, ρ) := (rfl)
def xAA (o : Option D) (r : Option (List D)) : Option (List D) := o.bind fun d => r.bind fun ds => some (d :: ds)
@[simp] theorem atAll_nil : atAll ρ [] = some [] := (rfl)
@[simp] theorem atAll_cons {l : LV} {ls : List LV} : atAll ρ (l :: ls) = xAA (l.at_ ρ) (atAll ρ ls) := (rfl)
@[simp] theorem xAA_ev : xAA (some d) (some ds) = some (d :: ds) := (rfl)
def xCB2 (g : List D → Option T) (o : Option (List D)) (ρ : En) : Option (T × En) := o.bind fun ds => xPut (g ds) ρ
def xCB (g : List D → Option T) (o : Option (List LV × En)) : Option (T × En) := o.bind fun p => xCB2 g (atAll p.2 p.1) p.2
@[simp] theorem dCB_ev {g : List D → Option T} {m : DenL} : dCB g m ρ = xCB g (m ρ) := (rfl)
@[simp] theorem xCB_ev {g : List D → Option T} {ls : List LV} : xCB g (some (ls, ρ)) = xCB2 g (atAll ρ ls) ρ := (rfl)
@[simp] theorem xCB2_ev {g : List D → Option T} : xCB2 g (some ds) ρ = xPut (g ds) ρ := (rfl)
@[simp] theorem on1_ev {g : D → Option T} : on1 g [d] = g d := (rfl)
def xCA2 (d : D) (o : Option (List D × En)) : Option (List D × En) := o.bind fun q => some (d :: q.1, q.2)
def xCA1 (r : DenA) (o : Option (D × En)) : Option (List D × En) := o.bind fun p => xCA2 p.1 (r p.2)
@[simp] theorem dNilA_ev : dNilA ρ = some ([], ρ) := (rfl)
@[simp] theorem dConsA_ev {m : Den} {r : DenA} : dConsA m r ρ = xCA1 r (dD m ρ) := (rfl)
@[simp] theorem xCA1_ev {r : DenA} : xCA1 r (some (d, ρ)) = xCA2 d (r ρ) := (rfl)
@[simp] theorem xCA2_ev : xCA2 d (some (ds, ρ)) = some (d :: ds, ρ) := (rfl)
theorem le_size {n : Nat} (h : n ≤ 1000000) : n ≤ sizeLine := by rw [sizeLine_eq]; omega
theorem lt_size {n : Nat} (h : n < 1000000) : n < sizeLine := by rw [sizeLine_eq]; omega
def xTup (o : Option (List D × En)) : Option (T × En) := o.bind fun p => if p.1.length ≤ sizeLine then some (.lf (.tup p.1), p.2) else none
def xLst (o : Option (List D × En)) : Option (T × En) := o.bind fun p => if p.1.length ≤ sizeLine then some (.lst p.1, p.2) else none
@[simp] theorem dTup_ev {m : DenA} : dTup m ρ = xTup (m ρ) := (rfl)
@[simp] theorem dLst_ev {m : DenA} : dLst m ρ = xLst (m ρ) := (rfl)
theorem xTup_ev (h : ds.length ≤ sizeLine) : xTup (some (ds, ρ)) = some (.lf (.tup ds), ρ) := if_pos h
theorem xLst_ev (h : ds.length ≤ sizeLine) : xLst (some (ds, ρ)) = some (.lst ds, ρ) := if_pos h
variable {d1 d2 d3 d4 d5 d6 d7 d8 d9 : D}
@[simp] theorem xTup0 : xTup (some ([], ρ)) = some (.lf (.tup []), ρ) := xTup_ev (le_size (by decide))
@[simp] theorem xTup1 : xTup (some ([d1], ρ)) = some (.lf (.tup [d1]), ρ) := xTup_ev (le_size (by simp))
@[simp] theorem xTup2 : xTup (some ([d1, d2], ρ)) = some (.lf (.tup [d1, d2]), ρ) := xTup_ev (le_size (by simp))
@[simp] theorem xTup3 : xTup (some ([d1, d2, d3], ρ)) = some (.lf (.tup [d1, d2, d3]), ρ) := xTup_ev (le_size (by simp))
@[simp] theorem xTup4 : xTup (some ([d1, d2, d3, d4], ρ)) = some (.lf (.tup [d1, d2, d3, d4]), ρ) := xTup_ev (le_size (by simp))
@[simp] theorem xLst0 : xLst (some ([], ρ)) = some (.lst [], ρ) := xLst_ev (le_size (by decide))
@[simp] theorem xLst1 : xLst (some ([d1], ρ)) = some (.lst [d1], ρ) := xLst_ev (le_size (by simp))
@[simp] theorem xLst2 : xLst (some ([d1, d2], ρ)) = some (.lst [d1, d2], ρ) := xLst_ev (le_size (by simp))
@[simp] theorem xLst3 : xLst (some ([d1, d2, d3], ρ)) = some (.lst [d1, d2, d3], ρ) := xLst_ev (le_size (by simp))
@[simp] theorem xLst4 : xLst (some ([d1, d2, d3, d4], ρ)) = some (.lst [d1, d2, d3, d4], ρ) := xLst_ev (le_size (by simp))
@[simp] theorem xLst7 : xLst (some ([d1, d2, d3, d4, d5, d6, d7], ρ)) = some (.lst [d1, d2, d3, d4, d5, d6, d7], ρ) := xLst_ev (le_size (by simp))
/-! ### tests -/
def xTru3 (o : Option Bool) (ρ : En) : Option (Bool × En) := o.bind fun b => some (b, ρ)
def xTru2 (o : Option D) (ρ : En) : Option (Bool × En) := o.bind fun d => xTru3 (truD d) ρ
def xTru (o : Option (LV × En)) : Option (Bool × En) := o.bind fun p => xTru2 (p.1.at_ p.2) p.2
@[simp] theorem dTru_ev {m : DenO} : dTru m ρ = xTru (m ρ) := (rfl)
@[simp] theorem xTru_ev {l : LV} : xTru (some (l, ρ)) = xTru2 (l.at_ ρ) ρ := (rfl)
@[simp] theorem xTru2_ev : xTru2 (some d) ρ = xTru3 (truD d) ρ := (rfl)
@[simp] theorem xTru3_ev : xTru3 (some b) ρ = some (b, ρ) := (rfl)
def xAnd (mb : DenB) (o : Option (Bool × En)) : Option (Bool × En) := o.bind fun p => if p.1 = true then mb p.2 else some (false, p.2)
def xOr (mb : DenB) (o : Option (Bool × En)) : Option (Bool × En) := o.bind fun p => if p.1 = true then some (true, p.2) else mb p.2
def xNot (o : Option (Bool × En)) : Option (Bool × En) := o.bind fun p => some (!p.1, p.2)
@[simp] theorem dAnd_ev {ma mb : DenB} : dAnd ma mb ρ = xAnd mb (ma ρ) := (rfl)
@[simp] theorem dOr_ev {ma mb : DenB} : dOr ma mb ρ = xOr mb (ma ρ) := (rfl)
@[simp] theorem dNot_ev {ma : DenB} : dNot ma ρ = xNot (ma ρ) := (rfl)
@[simp] theorem xAnd_t {mb : DenB} : xAnd mb (some (true, ρ)) = mb ρ := (rfl)
@[simp] theorem xAnd_f {mb : DenB} : xAnd mb (some (false, ρ)) = some (false, ρ) := (rfl)
@[simp] theorem xOr_t {mb : DenB} : xOr mb (some (true, ρ)) = some (true, ρ) := (rfl)
@[simp] theorem xOr_f {mb : DenB} : xOr mb (some (false, ρ)) = mb ρ := (rfl)
@[simp] theorem xNot_ev : xNot (some (b, ρ)) = some (!b, ρ) := (rfl)
def xAndV (mb : Den) (o : Option (Bool × En)) : Option (T × En) := o.bind fun p => if p.1 = true then mb p.2 else some (.lf (.bl false), p.2)
def xOrV (mb : Den) (o : Option (Bool × En)) : Option (T × En) := o.bind fun p => if p.1 = true then some (.lf (.bl true), p.2) else mb p.2
def xNotV (o : Option (Bool × En)) : Option (T × En) := o.bind fun p => some (.lf (.bl (!p.1)), p.2)
@[simp] theorem dAndV_ev {ma mb : Den} : dAndV ma mb ρ = xAndV mb (dBl ma ρ) := (rfl)
@[simp] theorem dOrV_ev {ma mb : Den} : dOrV ma mb ρ = xOrV mb (dBl ma ρ) := (rfl)
@[simp] theorem dNotV_ev {ma : Den} : dNotV ma ρ = xNotV (dBl ma ρ) := (rfl)
@[simp] theorem xAndV_t {mb : Den} : xAndV mb (some (true, ρ)) = mb ρ := (rfl)
@[simp] theorem xAndV_f {mb : Den} : xAndV mb (some (false, ρ)) = some (.lf (.bl false), ρ) := (rfl)
@[simp] theorem xOrV_t {mb : Den} : xOrV mb (some (true, ρ)) = some (.lf (.bl true), ρ) := (rfl)
@[simp] theorem xOrV_f {mb : Den} : xOrV mb (some (false, ρ)) = mb ρ := (rfl)
@[simp] theorem xNotV_ev : xNotV (some (b, ρ)) = some (.lf (.bl (!b)), ρ) := (rfl)
def xIf (ma mb : En → Option (α × En)) (o : Option (Bool × En)) : Option (α × En) := o.bind fun p => if p.1 = true then ma p.2 else mb p.2
@[simp] theorem dIf_ev {mc : DenB} {ma mb : En → Option (α × En)} : dIf mc ma mb ρ = xIf ma mb (mc ρ) := (rfl)
@[simp] theorem xIf_t {ma mb : En → Option (α × En)} : xIf ma mb (some (true, ρ)) = ma ρ := (rfl)
@[simp] theorem xIf_f {ma mb : En → Option (α × En)} : xIf ma mb (some (false, ρ)) = mb ρ := (rfl)
def xCh5 (o : Option T) (ρ : En) : Option (Bool × En) := o.bind fun t => match t with
  | .lf (.bl k) => some (k, ρ)
  | _ => none
def xCh4 (g' : D → D → Option T) (y : D) (o : Option (D × En)) : Option (Bool × En) := o.bind fun r => xCh5 (g' y r.1) r.2
def xCh3 (g' : D → D → Option T) (y : D) (mc : Den) (ρ : En) (o : Option T) : Option (Bool × En) := o.bind fun t => match t with
  | .lf (.bl true) => xCh4 g' y (dD mc ρ)
  | .lf (.bl false) => some (false, ρ)
  | _ => none
def xCh2 (g g' : D → D → Option T) (x : D) (mc : Den) (o : Option (D × En)) : Option (Bool × En) := o.bind fun q => xCh3 g' q.1 mc q.2 (g x q.1)
def xCh1 (g g' : D → D → Option T) (mb mc : Den) (o : Option (D × En)) : Option (Bool × En) := o.bind fun p => xCh2 g g' p.1 mc (dD mb p.2)
@[simp] theorem dChain_ev {g g' : D → D → Option T} {ma mb mc : Den} : dChain g g' ma mb mc ρ = xCh1 g g' mb mc (dD ma ρ) := (rfl)
@[simp] theorem xCh1_ev {g g' : D → D → Option T} {mb mc : Den} : xCh1 g g' mb mc (some (x, ρ)) = xCh2 g g' x mc (dD mb ρ) := (rfl)
@[simp] theorem xCh2_ev {g g' : D → D → Option T} {mc : Den} : xCh2 g g' x mc (some (y, ρ)) = xCh3 g' y mc ρ (g x y) := (rfl)
@[simp] theorem xCh3_t {g' : D → D → Option T} {mc : Den} : xCh3 g' y mc ρ (some (.lf (.bl true))) = xCh4 g' y (dD mc ρ) := (rfl)
@[simp] theorem xCh3_f {g' : D → D → Option T} {mc : Den} : xCh3 g' y mc ρ (some (.lf (.bl false))) = some (false, ρ) := (rfl)
@[simp] theorem xCh4_ev {g' : D → D → Option T} : xCh4 g' y (some (x, ρ)) = xCh5 (g' y x) ρ := (rfl)
@[simp] theorem xCh5_ev : xCh5 (some (.lf (.bl b))) ρ = some (b, ρ) := (rfl)
def xBV (o : Option (Bool × En)) : Option (T × En) := o.bind fun p => some (.lf (.bl p.1), p.2)
@[simp] theorem dBV_ev {m : DenB} : dBV m ρ = xBV (m ρ) := (rfl)
@[simp] theorem xBV_ev : xBV (some (b, ρ)) = some (.lf (.bl b), ρ) := (rfl)
/-! ### slices, methods -/
def xPart (o : Option (D × En)) : Option (Option Int × En) := o.bind fun p => match p.1 with
  | .int i => some (some i, p.2)
  | _ => none
@[simp] theorem dPart_n : dPart none ρ = some (none, ρ) := (rfl)
@[simp] theorem dPart_s {m : Den} : dPart (some m) ρ = xPart (dD m ρ) := (rfl)
@[simp] theorem xPart_ev {k : Int} : xPart (some (.int k, ρ)) = some (some k, ρ) := (rfl)
def xSli4 (o : Option D) (a b : Option Int) (ρ : En) : Option (T × En) := o.bind fun d => xPut (slD d a b) ρ
def xSli3 (l : LV) (a : Option Int) (o : Option (Option Int × En)) : Option (T × En) := o.bind fun r => xSli4 (l.at_ r.2) a r.1 r.2
def xSli2 (l : LV) (hi : Option Den) (o : Option (Option Int × En)) : Option (T × En) := o.bind fun q => xSli3 l q.1 (dPart hi q.2)
def xSli1 (lo hi : Option Den) (o : Option (LV × En)) : Option (T × En) := o.bind fun p => xSli2 p.1 hi (dPart lo p.2)
@[simp] theorem dSlice_ev {m : DenO} {lo hi : Option Den} : dSlice m lo hi ρ = xSli1 lo hi (m ρ) := (rfl)
@[simp] theorem xSli1_ev {lo hi : Option Den} {l : LV} : xSli1 lo hi (some (l, ρ)) = xSli2 l hi (dPart lo ρ) := (rfl)
@[simp] theorem xSli2_ev {hi : Option Den} {l : LV} {a : Option Int} : xSli2 l hi (some (a, ρ)) = xSli3 l a (dPart hi ρ) := (rfl)
@[simp] theorem xSli3_ev {l : LV} {a c : Option Int} : xSli3 l a (some (c, ρ)) = xSli4 (l.at_ ρ) a c ρ := (rfl)
@[simp] theorem xSli4_ev {a c : Option Int} : xSli4 (some d) a c ρ = xPut (slD d a c) ρ := (rfl)
def xStp3 (d : D) (a : Option Int) (o : Option (D × En)) : Option (T × En) := o.bind fun r => match r.1 with
  | .int st => xPut (stpD d a st) r.2
  | _ => none
def xStp2 (d : D) (ms : Den) (o : Option (Option Int × En)) : Option (T × En) := o.bind fun q => xStp3 d q.1 (dD ms q.2)
def xStp1 (lo : Option Den) (ms : Den) (o : Option (D × En)) : Option (T × En) := o.bind fun p => xStp2 p.1 ms (dPart lo p.2)
@[simp] theorem dStep_ev {m ms : Den} {lo : Option Den} : dStep m lo ms ρ = xStp1 lo ms (dD m ρ) := (rfl)
@[simp] theorem xStp1_ev {ms : Den} {lo : Option Den} : xStp1 lo ms (some (d, ρ)) = xStp2 d ms (dPart lo ρ) := (rfl)
@[simp] theorem xStp2_ev {ms : Den} {a : Option Int} : xStp2 d ms (some (a, ρ)) = xStp3 d a (dD ms ρ) := (rfl)
@[simp] theorem xStp3_ev {a : Option Int} {st : Int} : xStp3 d a (some (.int st, ρ)) = xPut (stpD d a st) ρ := (rfl)
def xM3 (g : D → List D → Option T) (d0 : D) (o : Option D) (ds : List D) (ρ : En) : Option (T × En) := o.bind fun d => if kindD d0 = kindD d then xPut (g d ds) ρ else none
def xM2 (g : D → List D → Option T) (l : LV) (d0 : D) (o : Option (List D × En)) : Option (T × En) := o.bind fun q => xM3 g d0 (l.at_ q.2) q.1 q.2
def xM1b (g : D → List D → Option T) (ma : DenA) (l : LV) (ρ : En) (o : Option D) : Option (T × En) := o.bind fun d0 => xM2 g l d0 (ma ρ)
def xM1 (g : D → List D → Option T) (ma : DenA) (o : Option (LV × En)) : Option (T × En) := o.bind fun p => xM1b g ma p.1 p.2 (p.1.at_ p.2)
@[simp] theorem dM_ev {g : D → List D → Option T} {mo : DenO} {ma : DenA} : dM g mo ma ρ = xM1 g ma (mo ρ) := (rfl)
@[simp] theorem xM1_ev {g : D → List D → Option T} {ma : DenA} {l : LV} : xM1 g ma (some (l, ρ)) = xM1b g ma l ρ (l.at_ ρ) := (rfl)
@[simp] theorem xM1b_ev {g : D → List D → Option T} {ma : DenA} {l : LV} : xM1b g ma l ρ (some d) = xM2 g l d (ma ρ) := (rfl)
@[simp] theorem xM2_ev {g : D → List D → Option T} {l : LV} : xM2 g l d (some (ds, ρ)) = xM3 g d (l.at_ ρ) ds ρ := (rfl)
@[simp] theorem xM3_ev {g : D → List D → Option T} : xM3 g d (some d) ds ρ = xPut (g d ds) ρ := if_pos rfl
/-! ### calls -/
def xArgs (o : Option T) (r : Option (List T)) : Option (List T) := o.bind fun t => r.bind fun ts => some (t :: ts)
@[simp] theorem argsT_nil : argsT ρ [] = some [] := (rfl)
@[simp] theorem argsT_sl {ls : List LV} : argsT ρ (.sl i :: ls) = xArgs (here i ρ) (argsT ρ ls) := (rfl)
@[simp] theorem argsT_va {ls : List LV} : argsT ρ (.va d :: ls) = xArgs (some (.lf d)) (argsT ρ ls) := (rfl)
@[simp] theorem xArgs_ev {ts : List T} : xArgs (some t) (some ts) = some (t :: ts) := (rfl)
def xLent (i : Nat) (o : Option T) (r : List Nat) : List Nat := match o with
  | some t => if t.own = true then i :: r else r
  | none => r
@[simp] theorem lent_nil : lent ρ [] = [] := (rfl)
@[simp] theorem lent_sl {ls : List LV} : lent ρ (.sl i :: ls) = xLent i (here i ρ) (lent ρ ls) := (rfl)
@[simp] theorem lent_va {ls : List LV} : lent ρ (.va d :: ls) = lent ρ ls := (rfl)
@[simp] theorem xLent_lf {r : List Nat} : xLent i (some (.lf d)) r = r := (rfl)
@[simp] theorem xLent_lst {r : List Nat} : xLent i (some (.lst ds)) r = i :: r := (rfl)
@[simp] theorem xLent_dct {r : List Nat} {ks : List Key} : xLent i (some (.dct ks ds)) r = i :: r := (rfl)
@[simp] theorem putBack_nil {ts : List T} : putBack ρ [] ts = ρ := by cases ts <;> rfl
@[simp] theorem putBack_sl {ls : List LV} {ts : List T} : putBack ρ (.sl i :: ls) (t :: ts) = putBack (ρ.set i (some t)) ls ts := (rfl)
@[simp] theorem putBack_va {ls : List LV} {ts : List T} : putBack ρ (.va d :: ls) (t :: ts) = putBack ρ ls ts := (rfl)
def xCall3 (ls : List LV) (ρ : En) (n : Nat) (o : Option (T × List T)) : Option (T × En) := o.bind fun q => if q.2.length = n then some (q.1, putBack ρ ls q.2) else none
def xCall2 (g : Fn) (ls : List LV) (ρ : En) (o : Option (List T)) : Option (T × En) := o.bind fun ts => if (lent ρ ls).Nodup then xCall3 ls ρ ts.length (g ts) else none
def xCall1 (g : Fn) (o : Option (List LV × En)) : Option (T × En) := o.bind fun p => xCall2 g p.1 p.2 (argsT p.2 p.1)
@[simp] theorem dCall_ev {g : Fn} {m : DenL} : dCall g m ρ = xCall1 g (m ρ) := (rfl)
@[simp] theorem xCall1_ev {g : Fn} {ls : List LV} : xCall1 g (some (ls, ρ)) = xCall2 g ls ρ (argsT ρ ls) := (rfl)
@[simp] theorem xCall2_ev {g : Fn} {ls : List LV} {ts : List T} : xCall2 g ls ρ (some ts) = if (lent ρ ls).Nodup then xCall3 ls ρ ts.length (g ts) else none := (rfl)
theorem xCall3_ev {ls : List LV} {n : Nat} {ts : List T} (h : ts.length = n) : xCall3 ls ρ n (some (t, ts)) = some (t, putBack ρ ls ts) := if_pos h
@[simp] theorem xCall3_0 {ls : List LV} : xCall3 ls ρ 0 (some (t, [])) = some (t, putBack ρ ls []) := (rfl)
@[simp] theorem xCall3_1 {ls : List LV} {u1 : T} : xCall3 ls ρ 1 (some (t, [u1])) = some (t, putBack ρ ls [u1]) := (rfl)
@[simp] theorem xCall3_2 {ls : List LV} {u1 u2 : T} : xCall3 ls ρ 2 (some (t, [u1, u2])) = some (t, putBack ρ ls [u1, u2]) := (rfl)
@[simp] theorem xCall3_3 {ls : List LV} {u1 u2 u3 : T} : xCall3 ls ρ 3 (some (t, [u1, u2, u3])) = some (t, putBack ρ ls [u1, u2, u3]) := (rfl)
@[simp] theorem xCall3_4 {ls : List LV} {u1 u2 u3 u4 : T} : xCall3 ls ρ 4 (some (t, [u1, u2, u3, u4])) = some (t, putBack ρ ls [u1, u2, u3, u4]) := (rfl)
@[simp] theorem xCall3_5 {ls : List LV} {u1 u2 u3 u4 u5 : T} : xCall3 ls ρ 5 (some (t, [u1, u2, u3, u4, u5])) = some (t, putBack ρ ls [u1, u2, u3, u4, u5]) := (rfl)
/-! ### what is walked -/
def xIter2 (o : Option (List D)) (ρ : En) : Option (List D × En) := o.bind fun ds => some (ds, ρ)
def xIter (o : Option (D × En)) : Option (List D × En) := o.bind fun p => xIter2 (iterD p.1) p.2
@[simp] theorem dIter_ev {m : Den} : dIter m ρ = xIter (dD m ρ) := (rfl)
@[simp] theorem xIter_ev : xIter (some (d, ρ)) = xIter2 (iterD d) ρ := (rfl)
@[simp] theorem xIter2_ev : xIter2 (some ds) ρ = some (ds, ρ) := (rfl)
@[simp] theorem iterD_lst : iterD (.lst ds) = some ds := (rfl)
@[simp] theorem iterD_tup : iterD (.tup ds) = some ds := (rfl)
@[simp] theorem iterD_scr {ns : List Int} : iterD (.scr ns) = some (ns.map D.int) := (rfl)
@[simp] theorem iterD_rng {a b c : Int} {n : Nat} : iterD (.rng a b c n) = some ((rngI a c n).map D.int) := (rfl)
def xEnum (o : Option (List D × En)) : Option (List D × En) := o.bind fun p => match p.1 with
  | [d] => xIter2 ((seqD d).bind fun ds => some (enumL ds)) p.2
  | _ => none
@[simp] theorem dEnum_ev {m : DenA} : dEnum m ρ = xEnum (m ρ) := by
  unfold dEnum xEnum xIter2
  cases m ρ with
  | none => rfl
  | some p =>
    obtain ⟨ds, ρ⟩ := p
    match ds with
    | [d] => show ((seqD d).bind fun ds => some (enumL ds, ρ)) = _; simp only [Option.bind_some, Option.bind_assoc]
    | [] => rfl
    | _ :: _ :: _ => rfl
@[simp] theorem xEnum_lst : xEnum (some ([.lst ds], ρ)) = some (enumL ds, ρ) := (rfl)
@[simp] theorem xEnum_tup : xEnum (some ([.tup ds], ρ)) = some (enumL ds, ρ) := (rfl)
def xRev (o : Option (D × En)) : Option (List D × En) := o.bind fun p => (seqD p.1).bind fun ds => some (ds.reverse, p.2)
@[simp] theorem dRev_ev {m : Den} : dRev m ρ = xRev (dD m ρ) := (rfl)
@[simp] theorem xRev_lst : xRev (some (.lst ds, ρ)) = some (ds.reverse, ρ) := (rfl)
@[simp] theorem xRev_tup : xRev (some (.tup ds, ρ)) = some (ds.reverse, ρ) := (rfl)
def xZip (o : Option (List D × En)) : Option (List D × En) := o.bind fun p => match p.1 with
  | [d, f] => (seqD d).bind fun ds => (seqD f).bind fun fs => some (zipL ds fs, p.2)
  | _ => none
@[simp] theorem dZip_ev {m : DenA} : dZip m ρ = xZip (m ρ) := (rfl)
variable {fs : List D}
@[simp] theorem xZip_ll : xZip (some ([.lst ds, .lst fs], ρ)) = some (zipL ds fs, ρ) := (rfl)
@[simp] theorem xZip_lt : xZip (some ([.lst ds, .tup fs], ρ)) = some (zipL ds fs, ρ) := (rfl)
@[simp] theorem xZip_tl : xZip (some ([.tup ds, .lst fs], ρ)) = some (zipL ds fs, ρ) := (rfl)
@[simp] theorem xZip_tt : xZip (some ([.tup ds, .tup fs], ρ)) = some (zipL ds fs, ρ) := (rfl)
/-! ### comprehensions -/
def xComp2 (ρ : En) (vs : List Nat) (o : Option (List D × En)) : Option (T × En) := o.bind fun q => some (.lst q.1, unwipe ρ q.2 vs)
def xComp (vs : List Nat) (g : DenG) (mt : DenB) (me : Den) (o : Option (List D × En)) : Option (T × En) := o.bind fun p => xComp2 p.2 vs (cRun vs g mt me p.1 [] (wipeE p.2 vs))
@[simp] theorem dComp_ev {vs : List Nat} {mi : DenI} {g : DenG} {mt : DenB} {me : Den} : dComp vs mi g mt me ρ = xComp vs g mt me (mi ρ) := (rfl)
@[simp] theorem xComp_ev {vs : List Nat} {g : DenG} {mt : DenB} {me : Den} : xComp vs g mt me (some (ds, ρ)) = xComp2 ρ vs (cRun vs g mt me ds [] (wipeE ρ vs)) := (rfl)
@[simp] theorem xComp2_ev {vs : List Nat} : xComp2 ρ vs (some (ds, ρ')) = some (.lst ds, unwipe ρ ρ' vs) := (rfl)
@[simp] theorem wipeE_nil : wipeE ρ [] = ρ := (rfl)
@[simp] theorem wipeE_cons {v : Nat} {vs : List Nat} : wipeE ρ (v :: vs) = (wipeE ρ vs).set v none := (rfl)
@[simp] theorem unwipe_nil : unwipe ρ ρ' [] = ρ' := (rfl)
def xUw (v : Nat) (r : En) (o : Option (Option T)) : En := match o with
  | some o => r.set v o
  | none => r
@[simp] theorem unwipe_cons {v : Nat} {vs : List Nat} : unwipe ρ ρ' (v :: vs) = xUw v (unwipe ρ ρ' vs) ρ[v]? := by
  show (match ρ[v]? with
    | some o => (unwipe ρ ρ' vs).set v o
    | none => unwipe ρ ρ' vs) = _
  cases ρ[v]? <;> rfl
@[simp] theorem xUw_ev {v : Nat} {o : Option T} : xUw v ρ (some o) = ρ.set v o := (rfl)
@[simp] theorem dYes_ev : dYes ρ = some (true, ρ) := (rfl)
def xC3 (vs : List Nat) (g : DenG) (mt : DenB) (me : Den) (ds acc : List D) (o : Option (D × En)) : Option (List D × En) := o.bind fun q => if acc.length < sizeLine then cRun vs g mt me ds (acc ++ [q.1]) (wipeE q.2 vs) else none
def xC2 (vs : List Nat) (g : DenG) (mt : DenB) (me : Den) (ds acc : List D) (o : Option (Bool × En)) : Option (List D × En) := o.bind fun p => if p.1 = true then xC3 vs g mt me ds acc (dD me p.2) else cRun vs g mt me ds acc (wipeE p.2 vs)
def xC1 (vs : List Nat) (g : DenG) (mt : DenB) (me : Den) (ds acc : List D) (o : Option En) : Option (List D × En) := o.bind fun ρ1 => xC2 vs g mt me ds acc (mt ρ1)
variable {vs : List Nat} {g : DenG} {mt : DenB} {me : Den} {acc : List D}
theorem cRun_nil : cRun vs g mt me [] acc ρ = some (acc, ρ) := rfl
theorem cRun_cons : cRun vs g mt me (d :: ds) acc ρ = xC1 vs g mt me ds acc (g d ρ) := rfl
@[simp] theorem xC1_ev : xC1 vs g mt me ds acc (some ρ) = xC2 vs g mt me ds acc (mt ρ) := (rfl)
@[simp] theorem xC2_t : xC2 vs g mt me ds acc (some (true, ρ)) = xC3 vs g mt me ds acc (dD me ρ) := (rfl)
@[simp] theorem xC2_f : xC2 vs g mt me ds acc (some (false, ρ)) = cRun vs g mt me ds acc (wipeE ρ vs) := (rfl)
theorem xC3_ev (h : acc.length < sizeLine) : xC3 vs g mt me ds acc (some (d, ρ)) = cRun vs g mt me ds (acc ++ [d]) (wipeE ρ vs) := if_pos h
/-! ### targets -/
@[simp] theorem gNm_ev : gNm i d ρ = some (ρ.set i (some (.lf d))) := (rfl)
def xGC (r : DenGs) (ds : List D) (o : Option En) : Option En := o.bind fun ρ1 => r ds ρ1
@[simp] theorem gNl_ev : gNl [] ρ = some ρ := (rfl)
@[simp] theorem gCn_ev {r : DenGs} : gCn g r (d :: ds) ρ = xGC r ds (g d ρ) := (rfl)
@[simp] theorem xGC_ev {r : DenGs} : xGC r ds (some ρ) = r ds ρ := (rfl)
@[simp] theorem gTp2 {r : DenGs} : gTp 2 r (.tup [d1, d2]) ρ = r [d1, d2] ρ := (rfl)
@[simp] theorem gTp3 {r : DenGs} : gTp 3 r (.tup [d1, d2, d3]) ρ = r [d1, d2, d3] ρ := (rfl)
@[simp] theorem gTp4 {r : DenGs} : gTp 4 r (.tup [d1, d2, d3, d4]) ρ = r [d1, d2, d3, d4] ρ := (rfl)
def xGS3 (i : Nat) (ρ : En) (o : Option T) : Option En := o.bind fun t' => some (ρ.set i (some t'))
def xGS2 (i : Nat) (k d : D) (ρ : En) (o : Option T) : Option En := o.bind fun t => xGS3 i ρ (setT t k d)
def xGS1 (i : Nat) (d : D) (o : Option (D × En)) : Option En := o.bind fun q => xGS2 i q.1 d q.2 (here i q.2)
def xGS0 (i : Nat) (mi : Den) (d : D) (ρ : En) (o : Option T) : Option En := o.bind fun _ => xGS1 i d (dD mi ρ)
@[simp] theorem gSubIx_ev {mi : Den} : gSubIx i mi d ρ = xGS0 i mi d ρ (here i ρ) := (rfl)
@[simp] theorem xGS0_ev {mi : Den} : xGS0 i mi d ρ (some t) = xGS1 i d (dD mi ρ) := (rfl)
@[simp] theorem xGS1_ev : xGS1 i d (some (x, ρ)) = xGS2 i x d ρ (here i ρ) := (rfl)
@[simp] theorem xGS2_ev : xGS2 i x d ρ (some t) = xGS3 i ρ (setT t x d) := (rfl)
@[simp] theorem xGS3_ev : xGS3 i ρ (some t) = some (ρ.set i (some t)) := (rfl)
/-! ### statements -/
variable {m n : DenS} {o : Out}
def xSeq (n : DenS) (o : Option (Out × En)) : Option (Out × En) := o.bind fun p => match p.1 with
  | .nx => n p.2
  | o => some (o, p.2)
@[simp] theorem sNil_ev : sNil ρ = some (.nx, ρ) := (rfl)
@[simp] theorem sC_ev : sC o ρ = some (o, ρ) := (rfl)
@[simp] theorem sSeq_ev : sSeq m n ρ = xSeq n (m ρ) := (rfl)
@[simp] theorem xSeq_nx : xSeq n (some (.nx, ρ)) = n ρ := (rfl)
@[simp] theorem xSeq_rt : xSeq n (some (.rt t, ρ)) = some (.rt t, ρ) := (rfl)
@[simp] theorem xSeq_bk : xSeq n (some (.bk, ρ)) = some (.bk, ρ) := (rfl)
@[simp] theorem xSeq_ct : xSeq n (some (.ct, ρ)) = some (.ct, ρ) := (rfl)
def xRet (o : Option (T × En)) : Option (Out × En) := o.bind fun p => some (.rt p.1, p.2)
@[simp] theorem sRet_ev {m : Den} : sRet m ρ = xRet (m ρ) := (rfl)
@[simp] theorem xRet_ev : xRet (some (t, ρ)) = some (.rt t, ρ) := (rfl)
def xRetV (i : Nat) (ρ : En) (o : Option (Option T)) : Option (Out × En) := match o with
  | some (some t) => some (.rt t, ρ.set i none)
  | _ => none
@[simp] theorem sRetV_ev : sRetV i ρ = xRetV i ρ ρ[i]? := (rfl)
@[simp] theorem xRetV_ev : xRetV i ρ (some (some t)) = some (.rt t, ρ.set i none) := (rfl)
def xExpr (o : Option (T × En)) : Option (Out × En) := o.bind fun p => some (.nx, p.2)
@[simp] theorem sExpr_ev {m : Den} : sExpr m ρ = xExpr (m ρ) := (rfl)
@[simp] theorem xExpr_ev : xExpr (some (t, ρ)) = some (.nx, ρ) := (rfl)
def xSet (i : Nat) (o : Option (T × En)) : Option (Out × En) := o.bind fun p => some (.nx, p.2.set i (some p.1))
@[simp] theorem sSet_ev {m : Den} : sSet i m ρ = xSet i (m ρ) := (rfl)
@[simp] theorem xSet_ev : xSet i (some (t, ρ)) = some (.nx, ρ.set i (some t)) := (rfl)
def xAsg2 (o : Option En) : Option (Out × En) := o.bind fun ρ' => some (.nx, ρ')
def xAsg (g : DenG) (o : Option (D × En)) : Option (Out × En) := o.bind fun p => xAsg2 (g p.1 p.2)
@[simp] theorem sAsgG_ev {m : Den} : sAsgG m g ρ = xAsg g (dD m ρ) := (rfl)
@[simp] theorem xAsg_ev : xAsg g (some (d, ρ)) = xAsg2 (g d ρ) := (rfl)
@[simp] theorem xAsg2_ev : xAsg2 (some ρ) = some (.nx, ρ) := (rfl)
def xPar2 (i j : Nat) (t : T) (o : Option (T × En)) : Option (Out × En) := o.bind fun q => some (.nx, (q.2.set i (some t)).set j (some q.1))
def xPar1 (i j : Nat) (mb : Den) (o : Option (T × En)) : Option (Out × En) := o.bind fun p => xPar2 i j p.1 (mb p.2)
@[simp] theorem sPar_ev {j : Nat} {ma mb : Den} : sPar i j ma mb ρ = xPar1 i j mb (ma ρ) := (rfl)
@[simp] theorem xPar1_ev {j : Nat} {mb : Den} : xPar1 i j mb (some (t, ρ)) = xPar2 i j t (mb ρ) := (rfl)
@[simp] theorem xPar2_ev {j : Nat} : xPar2 i j t (some (u, ρ)) = some (.nx, (ρ.set i (some t)).set j (some u)) := (rfl)
def xSI3 (i : Nat) (ρ : En) (o : Option T) : Option (Out × En) := o.bind fun t' => some (.nx, ρ.set i (some t'))
def xSI2 (i : Nat) (k d : D) (ρ : En) (o : Option T) : Option (Out × En) := o.bind fun t => xSI3 i ρ (setT t k d)
def xSI1 (i : Nat) (d : D) (o : Option (D × En)) : Option (Out × En) := o.bind fun q => xSI2 i q.1 d q.2 (here i q.2)
def xSI0 (i : Nat) (mi : Den) (d : D) (ρ : En) (o : Option T) : Option (Out × En) := o.bind fun _ => xSI1 i d (dD mi ρ)
def xSI (i : Nat) (mi : Den) (o : Option (D × En)) : Option (Out × En) := o.bind fun p => xSI0 i mi p.1 p.2 (here i p.2)
@[simp] theorem sSetIx_ev {mi m : Den} : sSetIx i mi m ρ = xSI i mi (dD m ρ) := (rfl)
@[simp] theorem xSI_ev {mi : Den} : xSI i mi (some (d, ρ)) = xSI0 i mi d ρ (here i ρ) := (rfl)
@[simp] theorem xSI0_ev {mi : Den} : xSI0 i mi d ρ (some t) = xSI1 i d (dD mi ρ) := (rfl)
@[simp] theorem xSI1_ev : xSI1 i d (some (x, ρ)) = xSI2 i x d ρ (here i ρ) := (rfl)
@[simp] theorem xSI2_ev : xSI2 i x d ρ (some t) = xSI3 i ρ (setT t x d) := (rfl)
@[simp] theorem xSI3_ev : xSI3 i ρ (some t) = some (.nx, ρ.set i (some t)) := (rfl)
def xApp2 (i : Nat) (d : D) (ρ : En) (o : Option (List D)) : Option (Out × En) := o.bind fun xs => if xs.length < sizeLine then some (.nx, ρ.set i (some (.lst (xs ++ [d])))) else none
def xApp1 (i : Nat) (o : Option (D × En)) : Option (Out × En) := o.bind fun p => xApp2 i p.1 p.2 ((here i p.2).bind lstT)
def xApp (i : Nat) (m : Den) (ρ : En) (o : Option (List D)) : Option (Out × En) := o.bind fun _ => xApp1 i (dD m ρ)
@[simp] theorem sAppend_ev {m : Den} : sAppend i m ρ = xApp i m ρ ((here i ρ).bind lstT) := (rfl)
@[simp] theorem lstT_ev : lstT (.lst ds) = some ds := (rfl)
@[simp] theorem xApp_ev {m : Den} : xApp i m ρ (some ds) = xApp1 i (dD m ρ) := (rfl)
@[simp] theorem xApp1_ev : xApp1 i (some (d, ρ)) = xApp2 i d ρ ((here i ρ).bind lstT) := (rfl)
theorem xApp2_ev (h : ds.length < sizeLine) : xApp2 i d ρ (some ds) = some (.nx, ρ.set i (some (.lst (ds ++ [d])))) := if_pos h
def xPop (i : Nat) (ρ : En) (o : Option (List D)) : Option (T × En) := o.bind fun xs => (xs[xs.length - 1]?).bind fun d => some (.lf d, ρ.set i (some (.lst xs.dropLast)))
@[simp] theorem dPop_ev : dPop i ρ = xPop i ρ ((here i ρ).bind lstT) := (rfl)
@[simp] theorem xPop_ev : xPop i ρ (some (ds ++ [d])) = some (.lf d, ρ.set i (some (.lst ds))) := by
  unfold xPop
  simp
def xPA2 (i : Nat) (k : Int) (ρ : En) (o : Option (List D)) : Option (T × En) := o.bind fun xs => (ixN xs.length k).bind fun j => (xs[j]?).bind fun d => if -(2 ^ 63) ≤ k ∧ k < 2 ^ 63 then some (.lf d, ρ.set i (some (.lst (xs.eraseIdx j)))) else none
def xPA1 (i : Nat) (o : Option (D × En)) : Option (T × En) := o.bind fun p => match p.1 with
  | .int k => xPA2 i k p.2 ((here i p.2).bind lstT)
  | _ => none
def xPA (i : Nat) (m : Den) (ρ : En) (o : Option (List D)) : Option (T × En) := o.bind fun _ => xPA1 i (dD m ρ)
@[simp] theorem dPopAt_ev {m : Den} : dPopAt i m ρ = xPA i m ρ ((here i ρ).bind lstT) := (rfl)
@[simp] theorem xPA_ev {m : Den} : xPA i m ρ (some ds) = xPA1 i (dD m ρ) := (rfl)
@[simp] theorem xPA1_ev {k : Int} : xPA1 i (some (.int k, ρ)) = xPA2 i k ρ ((here i ρ).bind lstT) := (rfl)
def xAug2 (i : Nat) (ρ : En) (o : Option T) : Option (Out × En) := o.bind fun t => some (.nx, ρ.set i (some t))
def xAug1 (g : D → D → Option T) (i : Nat) (x : D) (o : Option (D × En)) : Option (Out × En) := o.bind fun p => xAug2 i p.2 (g x p.1)
def xAugL1 (i : Nat) (ys : List D) (ρ : En) (o : Option (List D)) : Option (Out × En) := o.bind fun xs => if xs.length + ys.length ≤ sizeLine then some (.nx, ρ.set i (some (.lst (xs ++ ys)))) else none
def xAugL (i : Nat) (o : Option (D × En)) : Option (Out × En) := o.bind fun p => match p.1 with
  | .lst ys => xAugL1 i ys p.2 ((here i p.2).bind lstT)
  | _ => none
def xAug (ext : Bool) (g : D → D → Option T) (i : Nat) (m : Den) (ρ : En) (o : Option T) : Option (Out × En) := o.bind fun t0 => match t0 with
  | .lf dx => xAug1 g i dx (dD m ρ)
  | .lst _ => if ext = true then xAugL i (dD m ρ) else none
  | _ => none
@[simp] theorem sAug_ev {ext : Bool} {gg : D → D → Option T} {m : Den} : sAug ext gg i m ρ = xAug ext gg i m ρ (here i ρ) := (rfl)
@[simp] theorem xAug_lf {ext : Bool} {gg : D → D → Option T} {m : Den} : xAug ext gg i m ρ (some (.lf d)) = xAug1 gg i d (dD m ρ) := (rfl)
@[simp] theorem xAug_lst {gg : D → D → Option T} {m : Den} : xAug true gg i m ρ (some (.lst ds)) = xAugL i (dD m ρ) := (rfl)
@[simp] theorem xAug1_ev {gg : D → D → Option T} : xAug1 gg i x (some (y, ρ)) = xAug2 i ρ (gg x y) := (rfl)
@[simp] theorem xAug2_ev : xAug2 i ρ (some t) = some (.nx, ρ.set i (some t)) := (rfl)
@[simp] theorem xAugL_ev : xAugL i (some (.lst ds, ρ)) = xAugL1 i ds ρ ((here i ρ).bind lstT) := (rfl)
theorem xAugL1_ev (h : ds.length + fs.length ≤ sizeLine) : xAugL1 i fs ρ (some ds) = some (.nx, ρ.set i (some (.lst (ds ++ fs)))) := if_pos h
/-! ### loops -/
def xFor (g : DenG) (m : DenS) (o : Option (List D × En)) : Option (Out × En) := o.bind fun p => fRun g m p.1 p.2
@[simp] theorem sFor_ev {mi : DenI} : sFor mi g m ρ = xFor g m (mi ρ) := (rfl)
@[simp] theorem xFor_ev : xFor g m (some (ds, ρ)) = fRun g m ds ρ := (rfl)
def xFR2 (g : DenG) (m : DenS) (ds : List D) (o : Option (Out × En)) : Option (Out × En) := o.bind (wOut (fRun g m ds))
def xFR1 (g : DenG) (m : DenS) (ds : List D) (o : Option En) : Option (Out × En) := o.bind fun ρ1 => xFR2 g m ds (m ρ1)
theorem fRun_nil : fRun g m [] ρ = some (.nx, ρ) := rfl
theorem fRun_cons : fRun g m (d :: ds) ρ = xFR1 g m ds (g d ρ) := rfl
@[simp] theorem xFR1_ev : xFR1 g m ds (some ρ) = xFR2 g m ds (m ρ) := (rfl)
@[simp] theorem xFR2_nx : xFR2 g m ds (some (.nx, ρ)) = fRun g m ds ρ := (rfl)
@[simp] theorem xFR2_ct : xFR2 g m ds (some (.ct, ρ)) = fRun g m ds ρ := (rfl)
@[simp] theorem xFR2_bk : xFR2 g m ds (some (.bk, ρ)) = some (.nx, ρ) := (rfl)
@[simp] theorem xFR2_rt : xFR2 g m ds (some (.rt t, ρ)) = some (.rt t, ρ) := (rfl)
noncomputable def xW2 (mc : DenB) (m : DenS) (o : Option (Out × En)) : Option (Out × En) := o.bind (wOut (sWhile mc m))
noncomputable def xW1 (mc : DenB) (m : DenS) (o : Option (Bool × En)) : Option (Out × En) := o.bind fun p => if p.1 = true then xW2 mc m (m p.2) else some (.nx, p.2)
theorem sWhile_ev {mc : DenB} : sWhile mc m ρ = xW1 mc m (mc ρ) := sWhile_eq
@[simp] theorem xW1_t {mc : DenB} : xW1 mc m (some (true, ρ)) = xW2 mc m (m ρ) := (rfl)
@[simp] theorem xW1_f {mc : DenB} : xW1 mc m (some (false, ρ)) = some (.nx, ρ) := (rfl)
@[simp] theorem xW2_nx {mc : DenB} : xW2 mc m (some (.nx, ρ)) = sWhile mc m ρ := (rfl)
@[simp] theorem xW2_ct {mc : DenB} : xW2 mc m (some (.ct, ρ)) = sWhile mc m ρ := (rfl)
@[simp] theorem xW2_bk {mc : DenB} : xW2 mc m (some (.bk, ρ)) = some (.nx, ρ) := (rfl)
@[simp] theorem xW2_rt {mc : DenB} : xW2 mc m (some (.rt t, ρ)) = some (.rt t, ρ) := (rfl)
/-! ### displays, len(set(..)) -/
def xCP3 (k v : D) (o : Option (List (D × D) × En)) : Option (List (D × D) × En) := o.bind fun z => some ((k, v) :: z.1, z.2)
def xCP2 (k : D) (r : DenP) (o : Option (D × En)) : Option (List (D × D) × En) := o.bind fun q => xCP3 k q.1 (r q.2)
def xCP1 (mv : Den) (r : DenP) (o : Option (D × En)) : Option (List (D × D) × En) := o.bind fun p => xCP2 p.1 r (dD mv p.2)
@[simp] theorem dNilP_ev : dNilP ρ = some ([], ρ) := (rfl)
@[simp] theorem dConsP_ev {mk mv : Den} {r : DenP} : dConsP mk mv r ρ = xCP1 mv r (dD mk ρ) := (rfl)
@[simp] theorem xCP1_ev {mv : Den} {r : DenP} : xCP1 mv r (some (d, ρ)) = xCP2 d r (dD mv ρ) := (rfl)
@[simp] theorem xCP2_ev {r : DenP} : xCP2 x r (some (d, ρ)) = xCP3 x d (r ρ) := (rfl)
@[simp] theorem xCP3_ev {ps : List (D × D)} : xCP3 x d (some (ps, ρ)) = some ((x, d) :: ps, ρ) := (rfl)
def xDisp (o : Option (List (D × D) × En)) : Option (T × En) := o.bind fun p => (flatKeys p.1).bind fun kvs => if kvs.length ≤ 15 then some (.dct (mergeD ([], []) kvs).1 (mergeD ([], []) kvs).2, p.2) else none
@[simp] theorem dDisp_ev {m : DenP} : dDisp m ρ = xDisp (m ρ) := (rfl)
@[simp] theorem dNewD_ev : dNewD ρ = some (.dct [] [], ρ) := (rfl)
def xLenSet (o : Option (D × En)) : Option (T × En) := o.bind fun p => match p.1 with
  | .lst ds => (asInts ds).bind fun ns => if ns.length + 1 < scanBound then some (.lf (.int ((dedupI ns).length : Nat)), p.2) else none
  | _ => none
@[simp] theorem dLenSet_ev {m : Den} : dLenSet m ρ = xLenSet (dD m ρ) := (rfl)
/-! ### arithmetic -/
variable {p q : Int} {xs ys : List D}
@[simp] theorem addD_int : addD (.int p) (.int q) = some (.lf (.int (p + q))) := (rfl)
theorem addD_lst (h : xs.length + ys.length ≤ sizeLine) : addD (.lst xs) (.lst ys) = some (.lst (xs ++ ys)) := if_pos h
theorem addD_tup (h : xs.length + ys.length ≤ sizeLine) : addD (.tup xs) (.tup ys) = some (.lf (.tup (xs ++ ys))) := if_pos h
@[simp] theorem subD_int : subD (.int p) (.int q) = some (.lf (.int (p - q))) := (rfl)
theorem mulD_int (h : smallI p = true ∨ smallI q = true) : mulD (.int p) (.int q) = some (.lf (.int (p * q))) := if_pos h
theorem mulD_tup {k : Int} (h : -(2 ^ 63) ≤ k ∧ k < 2 ^ 63 ∧ xs.length * k.toNat ≤ sizeLine) : mulD (.tup xs) (.int k) = some (.lf (.tup (repL xs k))) := if_pos h
theorem mulD_lst {k : Int} (h : -(2 ^ 63) ≤ k ∧ k < 2 ^ 63 ∧ xs.length * k.toNat ≤ sizeLine) : mulD (.lst xs) (.int k) = some (.lst (repL xs k)) := if_pos h
theorem smallI_of (h : -(2 ^ 64) < p ∧ p < 2 ^ 64) : smallI p = true := smallI_iff.mpr h
theorem fdivD_int (h : 0 < q ∧ q < 1073741824) : fdivD (.int p) (.int q) = some (.lf (.int (p / q))) := if_pos h
theorem modD_int (h : 0 < q) : modD (.int p) (.int q) = some (.lf (.int (p % q))) := if_pos h
@[simp] theorem negD_int : negD (.int p) = some (.lf (.int (-p))) := (rfl)
@[simp] theorem ltD_int : ltD (.int p) (.int q) = some (.lf (.bl (decide (p < q)))) := (rfl)
@[simp] theorem leD_int : leD (.int p) (.int q) = some (.lf (.bl (decide (p ≤ q)))) := (rfl)
@[simp] theorem gtD_int : gtD (.int p) (.int q) = some (.lf (.bl (decide (q < p)))) := (rfl)
@[simp] theorem geD_int : geD (.int p) (.int q) = some (.lf (.bl (decide (q ≤ p)))) := (rfl)
theorem eqD_ev (h : sh 64 x = true) (k : sh 64 y = true) : eqD x y = some (.lf (.bl (eqv x y))) := if_pos ⟨h, k⟩
theorem neD_ev (h : sh 64 x = true) (k : sh 64 y = true) : neD x y = some (.lf (.bl (!eqv x y))) := if_pos ⟨h, k⟩
theorem sh_int {n : Nat} : sh n (.int p) = true := by cases n <;> rfl
@[simp] theorem eqD_int : eqD (.int p) (.int q) = some (.lf (.bl (p == q))) := eqD_ev sh_int sh_int
@[simp] theorem neD_int : neD (.int p) (.int q) = some (.lf (.bl (p != q))) := neD_ev sh_int sh_int
@[simp] theorem truD_int : truD (.int p) = some (p != 0) := (rfl)
@[simp] theorem truD_bl : truD (.bl b) = some b := (rfl)
@[simp] theorem truD_non : truD .non = some false := (rfl)
@[simp] theorem truD_lst : truD (.lst xs) = some (!xs.isEmpty) := (rfl)
@[simp] theorem truD_tup : truD (.tup xs) = some (!xs.isEmpty) := (rfl)
@[simp] theorem lenD_lst : lenD (.lst xs) = some (.lf (.int xs.length)) := (rfl)
@[simp] theorem lenD_tup : lenD (.tup xs) = some (.lf (.int xs.length)) := (rfl)
@[simp] theorem lenD_dct {ks : List Key} : lenD (.dct ks xs) = some (.lf (.int ks.length)) := (rfl)
@[simp] theorem intOf_int : intOfD (.int p) = some (.lf (.int p)) := (rfl)
@[simp] theorem intOf_bl : intOfD (.bl b) = some (.lf (.int (if b then 1 else 0))) := (rfl)
@[simp] theorem absD_int : absD (.int p) = some (.lf (.int (if p < 0 then -p else p))) := (rfl)
@[simp] theorem listD_lst : listD (.lst xs) = some (.lst xs) := (rfl)
@[simp] theorem listD_tup : listD (.tup xs) = some (.lst xs) := (rfl)
@[simp] theorem tupleD_lst : tupleD (.lst xs) = some (.lf (.tup xs)) := (rfl)
@[simp] theorem tupleD_tup : tupleD (.tup xs) = some (.lf (.tup xs)) := (rfl)
theorem listD_rng {a e c : Int} {k : Nat} (h : k ≤ 2 ^ 24) : listD (.rng a e c k) = some (.lst ((rngI a c k).map D.int)) := if_pos h
theorem tupleD_rng {a e c : Int} {k : Nat} (h : k ≤ 2 ^ 24) : tupleD (.rng a e c k) = some (.lf (.tup ((rngI a c k).map D.int))) := if_pos h
@[simp] theorem ixD_lst : ixD (.lst xs) (.int p) = (atI xs p).bind fun d => some (.lf d) := (rfl)
@[simp] theorem ixD_tup : ixD (.tup xs) (.int p) = (atI xs p).bind fun d => some (.lf d) := (rfl)
@[simp] theorem maxL_ii : maxL [.int p, .int q] = some (.lf (.int (if q > p then q else p))) := (rfl)
@[simp] theorem minL_ii : minL [.int p, .int q] = some (.lf (.int (if q < p then q else p))) := (rfl)
end
end VI

set_option Elab.async false
set_option linter.all false
set_option maxRecDepth 100000
set_option maxHeartbeats 4000000
/-! PM: plain lemmas that many laws share: places, ranges, loops, the box of draws -/
namespace VI
open PySem L2
open PyProof.Rows hiding St
section
variable {x y d : D} {xs : List D} {ρ : En}
theorem xAnd_b {mb : DenB} {a b : Bool} (h : mb ρ = some (b, ρ)) : xAnd mb (some (a, ρ)) = some (a && b, ρ) := by
  cases a with
  | true => exact h
  | false => rfl
theorem xOr_b {mb : DenB} {a b : Bool} (h : mb ρ = some (b, ρ)) : xOr mb (some (a, ρ)) = some (a || b, ρ) := by
  cases a with
  | true => rfl
  | false => exact h
/-! ### places -/
theorem ixN_nat {n j : Nat} {i : Int} (h : i = j) (hj : j < n) : ixN n i = some j := by
  subst h
  unfold ixN
  rw [if_pos (by omega), if_pos (by omega)]
  simp
theorem ixN_neg {n j : Nat} {i : Int} (h : i = (j : Int) - n) (hj : j < n) : ixN n i = some j := by
  subst h
  unfold ixN
  rw [if_neg (by omega), if_pos (by omega)]
  congr 1
  omega
theorem atI_nat {α : Type} {xs : List α} {i : Int} {n : Nat} (h : i = n) (hn : n < xs.length) : atI xs i = some xs[n] := by
  unfold atI
  rw [ixN_nat h hn]
  simp [hn]
theorem atI_neg {α : Type} {xs : List α} {i : Int} {n : Nat} (h : i = (n : Int) - xs.length) (hn : n < xs.length) : atI xs i = some xs[n] := by
  unfold atI
  rw [ixN_neg h hn]
  simp [hn]
@[simp] theorem atI_last {α : Type} {xs : List α} {a : α} : atI (xs ++ [a]) (-1) = some a := by
  rw [atI_neg (n := xs.length) (by simp; omega) (by simp)]
  simp
/-! ### slices -/
theorem cutD_but {α : Type} {xs : List α} : cutD xs none (some (-1)) = xs.dropLast := by
  unfold cutD HT.sIx
  simp
  rw [List.dropLast_eq_take]
  congr 1
  omega
@[simp] theorem sl_but {xs : List D} : slD (.lst xs) none (some (-1)) = some (.lst xs.dropLast) := by
  show some (T.lst (cutD xs none (some (-1)))) = _
  rw [cutD_but]
@[simp] theorem sl_butT {xs : List D} : slD (.tup xs) none (some (-1)) = some (.lf (.tup xs.dropLast)) := by
  show some (T.lf (.tup (cutD xs none (some (-1))))) = _
  rw [cutD_but]
@[simp] theorem stp_rev {xs : List D} : stpD (.lst xs) none (-1) = some (.lst xs.reverse) := by
  simp [stpD, stepL]
@[simp] theorem stp_revT {xs : List D} : stpD (.tup xs) none (-1) = some (.lf (.tup xs.reverse)) := by
  simp [stpD, stepL]
/-! ### ranges -/
theorem rngN_one {a b : Int} : rngN a b 1 = (b - a).toNat := by
  unfold rngN Builtin.Range.rangeSize
  simp
  try omega
theorem fits_small {i : Int} (h : -1000000000000 ≤ i) (h' : i ≤ 1000000000000) : Builtin.Range.rangeFitsLong i = true := by
  unfold Builtin.Range.rangeFitsLong
  simp
  omega
theorem rgC_one {a b : Int} (ha : -1000000000 ≤ a) (ha' : a ≤ 1000000000) (hb : -1000000000 ≤ b) (hb' : b ≤ 1000000000) : RgC a b 1 (rngN a b 1) := by
  have e : Builtin.Range.rangeSize a b 1 = if a < b then b - a else 0 := by
    unfold Builtin.Range.rangeSize
    simp
  refine ⟨by decide, by decide, ?_, ?_⟩
  · unfold Builtin.Range.small
    have h1 := fits_small (i := a) (by omega) (by omega)
    have h2 := fits_small (i := b) (by omega) (by omega)
    have h3 := fits_small (i := 1) (by omega) (by omega)
    have h4 : Builtin.Range.rangeFitsLong (Builtin.Range.rangeSize a b 1) = true := by
      rw [e]
      split <;> apply fits_small <;> omega
    simp [h1, h2, h3, h4]
  · unfold rngN
    rw [e]
    split <;> omega
theorem rgC_down {a b : Int} (ha : -1000000000 ≤ a) (ha' : a ≤ 1000000000) (hb : -1000000000 ≤ b) (hb' : b ≤ 1000000000) : RgC a b (-1) (rngN a b (-1)) := by
  have e : Builtin.Range.rangeSize a b (-1) = if b < a then a - b else 0 := by
    unfold Builtin.Range.rangeSize
    simp
  refine ⟨by decide, by decide, ?_, ?_⟩
  · unfold Builtin.Range.small
    have h1 := fits_small (i := a) (by omega) (by omega)
    have h2 := fits_small (i := b) (by omega) (by omega)
    have h3 := fits_small (i := -1) (by omega) (by omega)
    have h4 : Builtin.Range.rangeFitsLong (Builtin.Range.rangeSize a b (-1)) = true := by
      rw [e]
      split <;> apply fits_small <;> omega
    simp [h1, h2, h3, h4]
    try omega
  · unfold rngN
    rw [e]
    split <;> omega
theorem rngN_down {a b : Int} : rngN a b (-1) = (a - b).toNat := by
  unfold rngN Builtin.Range.rangeSize
  simp
  try omega
theorem rangeD_one {b : Int} (hb : -1000000000 ≤ b) (hb' : b ≤ 1000000000) : rangeD [.int b] = some (.lf (.rng 0 b 1 b.toNat)) := by
  have h := rgC_one (a := 0) (b := b) (by omega) (by omega) hb hb'
  show (if RgC 0 b 1 (rngN 0 b 1) then _ else _) = _
  rw [if_pos h, rngN_one]
  simp
theorem rangeD_two {a b : Int} (ha : -1000000000 ≤ a) (ha' : a ≤ 1000000000) (hb : -1000000000 ≤ b) (hb' : b ≤ 1000000000) : rangeD [.int a, .int b] = some (.lf (.rng a b 1 (b - a).toNat)) := by
  have h := rgC_one (a := a) (b := b) ha ha' hb hb'
  show (if RgC a b 1 (rngN a b 1) then _ else _) = _
  rw [if_pos h, rngN_one]
theorem rangeD_down {a b : Int} (ha : -1000000000 ≤ a) (ha' : a ≤ 1000000000) (hb : -1000000000 ≤ b) (hb' : b ≤ 1000000000) : rangeD [.int a, .int b, .int (-1)] = some (.lf (.rng a b (-1) (a - b).toNat)) := by
  have h := rgC_down (a := a) (b := b) ha ha' hb hb'
  show (if RgC a b (-1) (rngN a b (-1)) then _ else _) = _
  rw [if_pos h, rngN_down]
@[simp] theorem rngI_len {a c : Int} {n : Nat} : (rngI a c n).length = n := by simp [rngI]
/-! ### outcomes -/
/-- the meaning is there, and it is so -/
def Ev {α : Type} (Q : α → Prop) (o : Option α) : Prop := ∃ a, o = some a ∧ Q a
theorem Ev.of {α : Type} {Q : α → Prop} {a : α} (h : Q a) : Ev Q (some a) := ⟨a, rfl, h⟩
theorem Ev.mono {α : Type} {Q R : α → Prop} {o : Option α} (h : Ev Q o) (f : ∀ a, Q a → R a) : Ev R o := let ⟨a, e, q⟩ := h; ⟨a, e, f a q⟩
/-- a loop's step goes on -/
def Nx (P : En → Prop) (g : DenG) (m : DenS) (es : List D) (o : Option (Out × En)) : Prop := ∃ ρ', P ρ' ∧ o = fRun g m es ρ'
theorem Nx.of {P : En → Prop} {g : DenG} {m : DenS} {es : List D} {ρ : En} (h : P ρ) : Nx P g m es (fRun g m es ρ) := ⟨ρ, h, rfl⟩
/-- a comprehension's step goes on -/
def Cx (P : List D → En → Prop) (vs : List Nat) (g : DenG) (mt : DenB) (me : Den) (es : List D) (o : Option (List D × En)) : Prop := ∃ acc ρ', P acc ρ' ∧ o = cRun vs g mt me es acc ρ'
theorem Cx.of {P : List D → En → Prop} {vs : List Nat} {g : DenG} {mt : DenB} {me : Den} {es acc : List D} {ρ : En} (h : P acc ρ) : Cx P vs g mt me es (cRun vs g mt me es acc ρ) := ⟨acc, ρ, h, rfl⟩
theorem fn_ev {A : Nat → Bool} {np nn : Nat} {m : DenS} {ts : List T} {Q : T × List T → Prop} (hl : ts.length = np) (h : ∀ R : Out × En → Prop, (∀ p, (∃ t ts', outT p.1 = some t ∧ backArgs A p.2 0 ts = some ts' ∧ Q (t, ts')) → R p) → Ev R (m (ts.map some ++ List.replicate (nn - np) none))) : Ev Q (fnDen A np nn m ts) := by
  obtain ⟨p, e, t, ts', e1, e2, q⟩ := h _ fun _ h => h
  refine ⟨(t, ts'), ?_, q⟩
  unfold fnDen
  rw [if_pos hl, e]
  show (outT p.1).bind _ = _
  rw [e1]
  show (backArgs A p.2 0 ts).bind _ = _
  rw [e2]
  rfl
theorem Ev.eq {α : Type} {a : α} {o : Option α} (h : Ev (· = a) o) : o = some a := by
  obtain ⟨b, e, rfl⟩ := h
  exact e
/-! ### loops -/
variable {g : DenG} {m : DenS} {ds : List D}
theorem fRun_inv {F : Option (Out × En)} (hF : fRun g m ds ρ = F) (P : Nat → En → Prop) (h0 : P 0 ρ) (h : ∀ i (hi : i < ds.length) ρ es (R : En → Prop), (∀ ρ, P (i + 1) ρ → R ρ) → P i ρ → Nx R g m es (xFR1 g m es (g ds[i] ρ))) : ∃ ρ', P ds.length ρ' ∧ F = some (.nx, ρ') := by
  suffices H : ∀ (n i : Nat) (ρ : En), i + n = ds.length → P i ρ → ∃ ρ', P ds.length ρ' ∧ fRun g m (ds.drop i) ρ = some (.nx, ρ') by
    have := H ds.length 0 ρ (by omega) h0
    rw [← hF]
    simpa using this
  intro n
  induction n with
  | zero =>
    intro i ρ e p
    have e : i = ds.length := by omega
    subst e
    exact ⟨ρ, p, by rw [List.drop_length]; rfl⟩
  | succ n ih =>
    intro i ρ e p
    have hi : i < ds.length := by omega
    obtain ⟨ρ', p', r⟩ := h i hi ρ (ds.drop (i + 1)) _ (fun _ h => h) p
    obtain ⟨ρ2, p2, r2⟩ := ih (i + 1) ρ' (by omega) p'
    refine ⟨ρ2, p2, ?_⟩
    rw [List.drop_eq_getElem_cons hi, fRun_cons, r, r2]
variable {vs : List Nat} {mt : DenB} {me : Den}
theorem cRun_inv {F : Option (List D × En)} (hF : cRun vs g mt me ds [] ρ = F) (P : Nat → List D → En → Prop) (hd : ds.length ≤ 1000000) (hP : ∀ i acc ρ, P i acc ρ → acc.length ≤ i) (h0 : P 0 [] ρ) (h : ∀ i (hi : i < ds.length) acc ρ es (R : List D → En → Prop), (∀ acc ρ, P (i + 1) acc ρ → R acc ρ) → P i acc ρ → acc.length < sizeLine → Cx R vs g mt me es (xC1 vs g mt me es acc (g ds[i] ρ))) : ∃ acc ρ', P ds.length acc ρ' ∧ F = some (acc, ρ') := by
  suffices H : ∀ (n i : Nat) (acc : List D) (ρ : En), i + n = ds.length → P i acc ρ → ∃ acc' ρ', P ds.length acc' ρ' ∧ cRun vs g mt me (ds.drop i) acc ρ = some (acc', ρ') by
    have := H ds.length 0 [] ρ (by omega) h0
    rw [← hF]
    simpa using this
  intro n
  induction n with
  | zero =>
    intro i acc ρ e p
    have e : i = ds.length := by omega
    subst e
    exact ⟨acc, ρ, p, by rw [List.drop_length]; rfl⟩
  | succ n ih =>
    intro i acc ρ e p
    have hi : i < ds.length := by omega
    obtain ⟨acc', ρ', p', r⟩ := h i hi acc ρ (ds.drop (i + 1)) _ (fun _ _ h => h) p (lt_size (by have := hP i acc ρ p; omega))
    obtain ⟨acc2, ρ2, p2, r2⟩ := ih (i + 1) acc' ρ' (by omega) p'
    refine ⟨acc2, ρ2, p2, ?_⟩
    rw [List.drop_eq_getElem_cons hi, cRun_cons, r, r2]
/-- a comprehension that leaves the environment alone -/
theorem cRun_map {k : D → List D} (hk : ∀ d ∈ ds, (k d).length ≤ 1) (hd : ds.length ≤ 1000000) (h : ∀ d ∈ ds, ∀ es acc, acc.length < sizeLine → xC1 vs g mt me es acc (g d ρ) = cRun vs g mt me es (acc ++ k d) ρ) : cRun vs g mt me ds [] ρ = some (ds.flatMap k, ρ) := by
  suffices H : ∀ (ds : List D) acc, (∀ d ∈ ds, (k d).length ≤ 1) → acc.length + ds.length ≤ 1000000 → (∀ d ∈ ds, ∀ es acc, acc.length < sizeLine → xC1 vs g mt me es acc (g d ρ) = cRun vs g mt me es (acc ++ k d) ρ) → cRun vs g mt me ds acc ρ = some (acc ++ ds.flatMap k, ρ) by
    have := H ds [] hk (by simpa using hd) h
    simpa using this
  intro ds
  induction ds with
  | nil => intro acc _ _ _; simp [cRun_nil]
  | cons d ds ih =>
    intro acc hk hl h
    simp only [List.length_cons] at hl
    rw [cRun_cons, h d (by simp) ds acc (lt_size (by omega)), ih]
    · simp
    · exact fun d hd => hk d (by simp [hd])
    · have := hk d (by simp)
      simp
      omega
    · exact fun d hd => h d (by simp [hd])
theorem cRun_one {β : Type} {bs : List β} {e : β → D} {k : β → D} (hd : bs.length ≤ 1000000) (h : ∀ b ∈ bs, ∀ es acc, acc.length < sizeLine → xC1 vs g mt me es acc (g (e b) ρ) = cRun vs g mt me es (acc ++ [k b]) ρ) : cRun vs g mt me (bs.map e) [] ρ = some (bs.map k, ρ) := by
  suffices H : ∀ (bs : List β) acc, acc.length + bs.length ≤ 1000000 → (∀ b ∈ bs, ∀ es acc, acc.length < sizeLine → xC1 vs g mt me es acc (g (e b) ρ) = cRun vs g mt me es (acc ++ [k b]) ρ) → cRun vs g mt me (bs.map e) acc ρ = some (acc ++ bs.map k, ρ) by
    have := H bs [] (by simpa using hd) h
    simpa using this
  intro bs
  induction bs with
  | nil => intro acc _ _; simp [cRun_nil]
  | cons b bs ih =>
    intro acc hl h
    simp only [List.length_cons] at hl
    rw [List.map_cons, cRun_cons, h b (by simp) _ acc (lt_size (by omega)), ih]
    · simp
    · simp
      omega
    · exact fun d hd => h d (by simp [hd])
theorem cRun_fil {β : Type} {bs : List β} {e : β → D} {p : β → Bool} {k : β → D} (hd : bs.length ≤ 1000000) (h : ∀ b ∈ bs, ∀ es acc, acc.length < sizeLine → xC1 vs g mt me es acc (g (e b) ρ) = cRun vs g mt me es (if p b then acc ++ [k b] else acc) ρ) : cRun vs g mt me (bs.map e) [] ρ = some ((bs.filter p).map k, ρ) := by
  suffices H : ∀ (bs : List β) acc, acc.length + bs.length ≤ 1000000 → (∀ b ∈ bs, ∀ es acc, acc.length < sizeLine → xC1 vs g mt me es acc (g (e b) ρ) = cRun vs g mt me es (if p b then acc ++ [k b] else acc) ρ) → cRun vs g mt me (bs.map e) acc ρ = some (acc ++ (bs.filter p).map k, ρ) by
    have := H bs [] (by simpa using hd) h
    simpa using this
  intro bs
  induction bs with
  | nil => intro acc _ _; simp [cRun_nil]
  | cons b bs ih =>
    intro acc hl h
    simp only [List.length_cons] at hl
    rw [List.map_cons, cRun_cons, h b (by simp) _ acc (lt_size (by omega)), ih]
    · by_cases hp : p b = true <;> simp [hp]
    · by_cases hp : p b = true <;> simp [hp] <;> omega
    · exact fun d hd => h d (by simp [hd])
theorem fRun_ret {g : DenG} {m : DenS} {ds : List D} {F : Option (Out × En)} (hF : fRun g m ds ρ = F) (P : Nat → En → Prop) (N : Nat) (hN : N < ds.length) (h0 : P 0 ρ) (h : ∀ i (hi : i < ds.length), i < N → ∀ ρ es (R : En → Prop), (∀ ρ, P (i + 1) ρ → R ρ) → P i ρ → Nx R g m es (xFR1 g m es (g ds[i] ρ))) {Q : Out × En → Prop} (hend : ∀ ρ es, P N ρ → Ev Q (xFR1 g m es (g ds[N] ρ))) : ∃ q, Q q ∧ F = some q := by
  suffices H : ∀ (n i : Nat) (ρ : En), i + n = N → P i ρ → ∃ q, Q q ∧ fRun g m (ds.drop i) ρ = some q by
    have := H N 0 ρ (by omega) h0
    rw [← hF]
    simpa using this
  intro n
  induction n with
  | zero =>
    intro i ρ e p
    have e : i = N := by omega
    subst e
    obtain ⟨q, e, hq⟩ := hend ρ (ds.drop (i + 1)) p
    exact ⟨q, hq, by rw [List.drop_eq_getElem_cons hN, fRun_cons, e]⟩
  | succ n ih =>
    intro i ρ e p
    have hi : i < ds.length := by omega
    obtain ⟨ρ', p', r⟩ := h i hi (by omega) ρ (ds.drop (i + 1)) _ (fun _ h => h) p
    obtain ⟨q, hq, r2⟩ := ih (i + 1) ρ' (by omega) p'
    exact ⟨q, hq, by rw [List.drop_eq_getElem_cons hi, fRun_cons, r, r2]⟩
/-- a while's step goes on -/
def Wx (P : En → Prop) (mc : DenB) (m : DenS) (o : Option (Out × En)) : Prop := ∃ ρ', P ρ' ∧ o = sWhile mc m ρ'
theorem Wx.of {P : En → Prop} {mc : DenB} {m : DenS} {ρ : En} (h : P ρ) : Wx P mc m (sWhile mc m ρ) := ⟨ρ, h, rfl⟩
theorem while_inv {mc : DenB} {F : Option (Out × En)} (hF : sWhile mc m ρ = F) (P : Nat → En → Prop) (N : Nat) (h0 : P 0 ρ) (h : ∀ i, i < N → ∀ ρ (R : En → Prop), (∀ ρ, P (i + 1) ρ → R ρ) → P i ρ → Wx R mc m (xW1 mc m (mc ρ))) {Q : Out × En → Prop} (hend : ∀ ρ, P N ρ → Ev Q (xW1 mc m (mc ρ))) : ∃ p, Q p ∧ F = some p := by
  suffices H : ∀ (n i : Nat) (ρ : En), i + n = N → P i ρ → ∃ p, Q p ∧ sWhile mc m ρ = some p by
    rw [← hF]
    exact H N 0 ρ (by omega) h0
  intro n
  induction n with
  | zero =>
    intro i ρ e p
    have e : i = N := by omega
    subst e
    obtain ⟨q, e, hq⟩ := hend ρ p
    exact ⟨q, hq, by rw [sWhile_ev, e]⟩
  | succ n ih =>
    intro i ρ e p
    obtain ⟨ρ', p', r⟩ := h i (by omega) ρ _ (fun _ h => h) p
    obtain ⟨q, hq, r2⟩ := ih (i + 1) ρ' (by omega) p'
    exact ⟨q, hq, by rw [sWhile_ev, r, r2]⟩
/-! ### the box of draws: the same three functions in every law -/
def mDrawsT : DenS := (sSeq (sSet 4 (dLst dNilA)) (sSeq (dIf (dBl (dBin geD (dVar 3) (dBin powD (dC (.int 10)) (dC (.int 18))))) (sSeq (sFor (dIter (dCB (rangeD) (dConsL (dSl 2) dNilL))) (gNm 5) (sSeq (sAppend 4 (dBin modD (dCB (on1 intOfD) (dConsL (dSl 3) dNilL)) (dVar 1))) (sSeq (sSet 3 (dBin fdivD (dVar 3) (dVar 1))) sNil))) (sSeq (sRetV 4) sNil)) sNil) (sSeq (sFor (dIter (dCB (rangeD) (dConsL (dSl 2) dNilL))) (gNm 5) (sSeq (sSet 6 (dBin modD (dCB (on1 intOfD) (dConsL (dO (dBin mulD (dBin addD (dBin addD (dVar 3) (dBin mulD (dC (.int 7)) (dVar 5))) (dC (.int 1))) (dC (.int 48271)))) dNilL)) (dC (.int 2147483647)))) (sSeq (sSet 6 (dBin modD (dCB (on1 intOfD) (dConsL (dO (dBin addD (dBin mulD (dVar 6) (dC (.int 69621))) (dBin mulD (dC (.int 31)) (dVar 5)))) dNilL)) (dC (.int 2147483629)))) (sSeq (sAppend 4 (dBin modD (dCB (on1 intOfD) (dConsL (dO (dBin fdivD (dVar 6) (dC (.int 7)))) dNilL)) (dVar 1))) sNil)))) (sSeq (sRetV 4) sNil))))
def mDraws : DenS := (sSeq (sSet 3 (dVar 0)) (sSeq (dIf (dBl (dBin ltD (dVar 3) (dC (.int 0)))) (sSeq (sSet 3 (dBin subD (dBin subD (dC (.int 0)) (dC (.int 1))) (dVar 3))) sNil) sNil) mDrawsT))
def fDraws : Fn := fnDen (fun i => decide (i ∈ ([3, 4, 5, 6] : List Nat))) 3 7 mDraws
def mBox : DenS := (sSeq (sSet 1 (dLst dNilA)) (sSeq (sFor (dIter (dVar 0)) (gNm 2) (sSeq (sSet 1 (dBin addD (dVar 1) (dCall fDraws (dConsL (dSl 2) (dConsL (dO (dC (.int 1000003))) (dConsL (dO (dC (.int 6))) dNilL)))))) sNil)) (sSeq (dIf (dBl (dBin eqD (dCB (on1 lenD) (dConsL (dSl 1) dNilL)) (dC (.int 0)))) (sSeq (sSet 1 (dLst (dConsA (dC (.int 11)) (dConsA (dC (.int 5)) (dConsA (dC (.int 2)) (dConsA (dC (.int 7)) (dConsA (dC (.int 31)) (dConsA (dC (.int 101)) (dConsA (dC (.int 997)) dNilA))))))))) sNil) sNil) (sSeq (sRet (dDisp (dConsP (dC (.str "row")) (dVar 1) (dConsP (dC (.str "at")) (dC (.int 0)) dNilP)))) sNil))))
def fBox : Fn := fnDen (fun i => decide (i ∈ ([1, 2] : List Nat))) 1 3 mBox
def mNext : DenS := (sSeq (sSet 2 (dBinO ixD (dSl 0) (dO (dC (.str "at"))))) (sSeq (sSetIx 0 (dC (.str "at")) (dBin addD (dVar 2) (dC (.int 1)))) (sSeq (sSet 3 (dBinO ixD (dO (dBinO ixD (dSl 0) (dO (dC (.str "row"))))) (dO (dBin modD (dVar 2) (dCB (on1 lenD) (dConsL (dO (dBinO ixD (dSl 0) (dO (dC (.str "row"))))) dNilL)))))) (sSeq (sRet (dBin modD (dCB (on1 intOfD) (dConsL (dO (dBin addD (dVar 3) (dBin mulD (dC (.int 7919)) (dBin fdivD (dVar 2) (dCB (on1 lenD) (dConsL (dO (dBinO ixD (dSl 0) (dO (dC (.str "row"))))) dNilL)))))) dNilL)) (dVar 1))) sNil))))
def fNext : Fn := fnDen (fun i => decide (i ∈ ([2, 3] : List Nat))) 2 4 mNext
@[simp] theorem box_row : ixD (.dct [.inr "row", .inr "at"] [x, y]) (.str "row") = some (.lf x) := (rfl)
@[simp] theorem box_at : ixD (.dct [.inr "row", .inr "at"] [x, y]) (.str "at") = some (.lf y) := (rfl)
@[simp] theorem box_set : setT (.dct [.inr "row", .inr "at"] [x, y]) (.str "at") d = some (.dct [.inr "row", .inr "at"] [x, d]) := (rfl)
/-- a box -/
def Box (t : T) : Prop := ∃ (ns : List Int) (a : Nat), 0 < ns.length ∧ ns.length ≤ 1000 ∧ t = .dct [.inr "row", .inr "at"] [.lst (ns.map .int), .int a]
theorem Box.own {t : T} (h : Box t) : t.own = true := by
  obtain ⟨ns, a, _, _, rfl⟩ := h
  rfl
/-- the next draw -/
theorem next_ok {t : T} (h : Box t) {m : Int} (hm : 0 < m) : Ev (fun q => ∃ (t' : T) (v : Nat), Box t' ∧ (v : Int) < m ∧ q = (.lf (.int v), [t', .lf (.int m)])) (fNext [t, .lf (.int m)]) := by
  obtain ⟨ns, a, h0, hl, rfl⟩ := h
  have h1 : (0 : Int) < ns.length := by omega
  have h2 : (ns.length : Int) < 1073741824 := by omega
  have h4 : atI (ns.map D.int) ((a : Int) % ns.length) = some (.int (ns[a % ns.length]'(Nat.mod_lt _ h0))) := by
    rw [atI_nat (n := a % ns.length) (by simp) (by simpa using Nat.mod_lt _ h0)]
    simp
  have h5 := Int.emod_nonneg (ns[a % ns.length]'(Nat.mod_lt _ h0) + 7919 * ((a : Int) / ns.length)) (show m ≠ 0 by omega)
  have h6 := Int.emod_lt_of_pos (ns[a % ns.length]'(Nat.mod_lt _ h0) + 7919 * ((a : Int) / ns.length)) hm
  refine fn_ev rfl fun R hR => ?_
  simp [mNext, modD_int h1, modD_int hm, fdivD_int ⟨h1, h2⟩, h4, mulD_int (.inl (smallI_of (p := 7919) (by decide)))]
  refine .of (hR _ ⟨_, _, rfl, rfl, _, ((ns[a % ns.length]'(Nat.mod_lt _ h0) + 7919 * ((a : Int) / ns.length)) % m).toNat, ⟨ns, a + 1, h0, hl, rfl⟩, ?_, ?_⟩)
  · rw [Int.toNat_of_nonneg h5]; exact h6
  · rw [Int.toNat_of_nonneg h5]; rfl
theorem powD_10_18 : powD (.int 10) (.int 18) = some (.lf (.int 1000000000000000000)) := by
  simp [powD, intsD]
theorem draws_ok (c : Int) {k : Nat} {m : Int} (hm : 0 < m) (hm' : m < 1073741824) (hk : k ≤ 1000) : Ev (fun q => ∃ ns : List Int, ns.length = k ∧ q = (.lst (ns.map .int), [.lf (.int c), .lf (.int m), .lf (.int k)])) (fDraws [.lf (.int c), .lf (.int m), .lf (.int k)]) := by
  have hr : rangeD [.int k] = some (.lf (.rng 0 k 1 k)) := by
    have := rangeD_one (b := k) (by omega) (by omega)
    simpa using this
  have h1 : smallI 48271 = true ∧ smallI 7 = true ∧ smallI 31 = true ∧ smallI 69621 = true := by decide
  refine fn_ev rfl fun R hR => ?_
  suffices H : ∀ n : Int, Ev R (mDrawsT [some (.lf (.int c)), some (.lf (.int m)), some (.lf (.int k)), some (.lf (.int n)), none, none, none]) by
    by_cases hc : c < 0
    · simpa [mDraws, hc] using H (0 - 1 - c)
    · simpa [mDraws, hc] using H c
  intro n
  by_cases hb : 1000000000000000000 ≤ n
  · simp [mDrawsT, powD_10_18, hb, hr]
    generalize hF : fRun _ _ _ _ = F
    obtain ⟨ρ', ⟨ns, n', o5, hl, rfl⟩, rfl⟩ := fRun_inv hF (fun i ρ => ∃ (ns : List Int) (n' : Int) (o5 : Option T), ns.length = i ∧ ρ = [some (.lf (.int c)), some (.lf (.int m)), some (.lf (.int k)), some (.lf (.int n')), some (.lst (ns.map .int)), o5, none])
      ⟨[], n, none, rfl, rfl⟩ (by
        rintro i hi ρ es R hR ⟨ns, n', o5, hl, rfl⟩
        have hi' : i < 1000 := by simp at hi; omega
        simp [modD_int hm, fdivD_int ⟨hm, hm'⟩]
        rw [xApp2_ev (lt_size (by simp; omega))]
        simp [fdivD_int ⟨hm, hm'⟩]
        exact .of (hR _ ⟨ns ++ [n' % m], n' / m, _, by simp [hl], by simp; rfl⟩))
    simp
    exact .of (hR _ ⟨_, _, rfl, rfl, ns, by simpa using hl, rfl⟩)
  · simp [mDrawsT, powD_10_18, hb, hr]
    generalize hF : fRun _ _ _ _ = F
    obtain ⟨ρ', ⟨ns, o6, o5, hl, rfl⟩, rfl⟩ := fRun_inv hF (fun i ρ => ∃ (ns : List Int) (o5 o6 : Option T), ns.length = i ∧ ρ = [some (.lf (.int c)), some (.lf (.int m)), some (.lf (.int k)), some (.lf (.int n)), some (.lst (ns.map .int)), o5, o6])
      ⟨[], none, none, rfl, rfl⟩ (by
        rintro i hi ρ es R hR ⟨ns, o5, o6, hl, rfl⟩
        have hi' : i < 1000 := by simp at hi; omega
        simp [modD_int hm, fdivD_int (q := 7) (by decide), modD_int (q := 2147483647) (by decide), modD_int (q := 2147483629) (by decide), mulD_int (p := 7) (.inl h1.2.1), mulD_int (p := 31) (.inl h1.2.2.1), mulD_int (q := 48271) (.inr h1.1), mulD_int (q := 69621) (.inr h1.2.2.2)]
        rw [xApp2_ev (lt_size (by simp; omega))]
        simp
        exact .of (hR _ ⟨ns ++ [_], _, _, by simp [hl], by simp; exact ⟨rfl, rfl, rfl⟩⟩))
    simp
    exact .of (hR _ ⟨_, _, rfl, rfl, ns, by simpa using hl, rfl⟩)
theorem box_disp : xDisp (some ([(.str "row", x), (.str "at", y)], ρ)) = some (.dct [.inr "row", .inr "at"] [x, y], ρ) := rfl
theorem box_ok {ns : List Int} (hn : ns.length ≤ 63) : Ev (fun q => ∃ t, Box t ∧ q = (t, [.lf (.scr ns)])) (fBox [.lf (.scr ns)]) := by
  refine fn_ev rfl fun R hR => ?_
  simp [mBox]
  generalize hF : fRun _ _ _ _ = F
  obtain ⟨ρ', ⟨ms, o, hl, rfl⟩, rfl⟩ := fRun_inv hF (fun i ρ => ∃ (ms : List Int) (o : Option T), ms.length = 6 * i ∧ ρ = [some (.lf (.scr ns)), some (.lst (ms.map .int)), o])
    ⟨[], none, rfl, rfl⟩ (by
      rintro i hi ρ es R hR ⟨ms, o, hl, rfl⟩
      have hi' : i < 63 := by simp at hi; omega
      obtain ⟨q, e, ks, hk, rfl⟩ := draws_ok (ns[i]'(by simpa using hi)) (k := 6) (m := 1000003) (by decide) (by decide) (by decide)
      have e : fDraws [.lf (.int (ns[i]'(by simpa using hi))), .lf (.int 1000003), .lf (.int 6)] = some (T.lst (List.map D.int ks), [T.lf (D.int (ns[i]'(by simpa using hi))), T.lf (D.int 1000003), T.lf (D.int 6)]) := e
      simp [e, addD_lst (xs := List.map D.int ms) (ys := List.map D.int ks) (le_size (by simp; omega))]
      exact .of (hR _ ⟨ms ++ ks, _, by simp; omega, by simp; rfl⟩))
  by_cases h0 : ms.length = 0
  · simp [h0, box_disp]
    exact .of (hR _ ⟨_, _, rfl, rfl, _, ⟨[11, 5, 2, 7, 31, 101, 997], 0, by decide, by decide, rfl⟩, rfl⟩)
  · have h1 : ((ms.length : Int) == 0) = false := by simp; exact fun e => h0 (by simp [e])
    simp [h1, box_disp]
    refine .of (hR _ ⟨_, _, rfl, rfl, _, ⟨ms, 0, by omega, ?_, rfl⟩, rfl⟩)
    simp at hl
    omega
end
end VI

set_option Elab.async false
set_option linter.all false
set_option maxRecDepth 100000
set_option maxHeartbeats 4000000
/-! PR: rows and changes, plainly -/
namespace VI
open PySem L2
open PyProof.Rows hiding St
/-! ### lists of numbers -/
def nums (r : List Nat) : List D := r.map fun n : Nat => D.int (n : Int)
@[simp] theorem nums_nil : nums [] = [] := (rfl)
@[simp] theorem nums_len {r : List Nat} : (nums r).length = r.length := by simp [nums]
theorem nums_app {r s : List Nat} : nums (r ++ s) = nums r ++ nums s := by simp [nums]
theorem nums_one {n : Nat} : nums [n] = [.int n] := rfl
@[simp] theorem nums_get {r : List Nat} {i : Nat} (h : i < (nums r).length) : (nums r)[i] = D.int (r[i]'(by simpa using h) : Nat) := by simp [nums]
theorem nums_set {r : List Nat} {i n : Nat} : (nums r).set i (.int n) = nums (r.set i n) := by simp [nums, List.map_set]
@[simp] theorem nums_empty {r : List Nat} : (nums r).isEmpty = r.isEmpty := by cases r <;> rfl
theorem nums_rev {r : List Nat} : (nums r).reverse = nums r.reverse := by simp [nums]
theorem nums_rng {a n : Nat} : (rngI a 1 n).map D.int = nums (List.range' a n) := by
  simp [rngI, nums, List.range'_eq_map_range, Function.comp_def]
theorem nums_rng0 {n : Nat} : (rngI 0 1 n).map D.int = nums (List.range n) := by
  simp [rngI, nums, Function.comp_def]
theorem nums_down {n : Nat} : (rngI n (-1) n).map D.int = nums (List.range' 1 n).reverse := by
  simp [rngI, nums]
  apply List.ext_getElem
  · simp
  · intro i h1 h2
    simp at h1
    simp
    omega
theorem sh_nums {r : List Nat} {k : Nat} : (nums r).all (sh k) = true := by
  simp [nums, List.all_map, Function.comp_def, sh_int]
theorem eqv_int {p q : Int} : eqv (.int p) (.int q) = (p == q) := by simp [eqv]
theorem eqvs_nums : ∀ {r s : List Nat}, eqvs (nums r) (nums s) = (r == s)
  | [], [] => by simp [nums, eqvs]
  | [], _ :: _ => by simp [nums, eqvs]
  | _ :: _, [] => by simp [nums, eqvs]
  | a :: r, b :: s => by
    have ih := eqvs_nums (r := r) (s := s)
    simp only [nums, List.map_cons, eqvs, eqv] at ih ⊢
    rw [ih]
    by_cases h : a = b
    · subst h
      simp
    · have : ((a : Int) == (b : Int)) = false := by simp; omega
      simp [this, h]
theorem has_tup {r : List Nat} {n : Nat} {b : Bool} : hasRul b (.int n) (.tup (nums r)) = some (.lf (.bl (if b then !decide (n ∈ r) else decide (n ∈ r)))) := by
  have h1 : hasD (.int n) (.tup (nums r)) = some (decide (n ∈ r)) := by
    show (if sh 63 (.int n) = true ∧ (nums r).all (sh 63) = true then some ((nums r).any fun z => eqv z (.int n)) else none) = _
    rw [if_pos ⟨sh_int, sh_nums⟩]
    congr 1
    simp [nums, List.any_map, Function.comp_def, eqv_int]
    rw [Bool.eq_iff_iff]
    simp
    constructor
    · rintro ⟨x, hx, e⟩
      have : x = n := by omega
      exact this ▸ hx
    · exact fun h => ⟨n, h, rfl⟩
  unfold hasRul
  rw [h1]
  cases b <;> rfl
theorem has_lst {r : List Nat} {n : Nat} {b : Bool} : hasRul b (.int n) (.lst (nums r)) = some (.lf (.bl (if b then !decide (n ∈ r) else decide (n ∈ r)))) := has_tup (r := r)
/-- a number's place -/
theorem idx_nums {r : List Nat} {b : Nat} (h : b ∈ r) : idxL (.int b) (nums r) = some (r.idxOf b) := by
  unfold idxL nums
  rw [List.findIdx?_map]
  have e : (fun z => eqv z (.int (b : Int))) ∘ (fun n : Nat => D.int (n : Int)) = fun n => n == b := by
    funext n
    simp [eqv_int]
    rw [Bool.eq_iff_iff]
    simp
    omega
  rw [e, List.findIdx?_eq_some_iff_findIdx_eq]
  exact ⟨by have := List.idxOf_lt_length_of_mem h; simpa [List.idxOf] using this, rfl⟩
theorem plainL_nums {r : List Nat} {b : Int} : plainL (.int b) (nums r) = true := by
  simp only [plainL, sh_int, sh_nums, Bool.and_self]
theorem index_tup {r : List Nat} {b : Nat} (h : b ∈ r) : indexA (.tup (nums r)) [.int b] = some (.lf (.int (r.idxOf b))) := by
  show (if plainL (.int b) (nums r) = true then (idxL (.int b) (nums r)).bind fun j => some (T.lf (.int j)) else none) = _
  rw [if_pos plainL_nums, idx_nums h]
  rfl
theorem index_lst {r : List Nat} {b : Nat} (h : b ∈ r) : indexA (.lst (nums r)) [.int b] = some (.lf (.int (r.idxOf b))) := by
  show (if plainL (.int b) (nums r) = true then (idxL (.int b) (nums r)).bind fun j => some (T.lf (.int j)) else none) = _
  rw [if_pos plainL_nums, idx_nums h]
  rfl
theorem atI_nums {r : List Nat} {i : Int} {n : Nat} (h : i = n) (hn : n < r.length) : atI (nums r) i = some (.int (r[n] : Nat)) := by
  rw [atI_nat h (by simpa using hn)]
  simp
/-! ### changes as steps: true makes a place, false crosses a pair -/
def wid : List Bool → Nat
  | [] => 0
  | true :: ss => wid ss + 1
  | false :: ss => wid ss + 2
def plc : Nat → List Bool → List Nat
  | _, [] => []
  | k, true :: ss => (k + 1) :: plc (k + 1) ss
  | k, false :: ss => plc (k + 2) ss
def swp {α : Type} : List Bool → List α → List α
  | [], xs => xs
  | true :: ss, x :: xs => x :: swp ss xs
  | true :: _, [] => []
  | false :: ss, x :: y :: xs => y :: x :: swp ss xs
  | false :: _, xs => xs
theorem wid_app : ∀ {s t : List Bool}, wid (s ++ t) = wid s + wid t
  | [], t => by simp [wid]
  | true :: s, t => by simp [wid, wid_app (s := s) (t := t)]; omega
  | false :: s, t => by simp [wid, wid_app (s := s) (t := t)]; omega
theorem len_wid : ∀ {s : List Bool}, s.length ≤ wid s
  | [] => by simp [wid]
  | true :: s => by have := len_wid (s := s); simp [wid]; omega
  | false :: s => by have := len_wid (s := s); simp [wid]; omega
theorem plc_app : ∀ {k : Nat} {s t : List Bool}, plc k (s ++ t) = plc k s ++ plc (k + wid s) t
  | k, [], t => by simp [plc, wid]
  | k, true :: s, t => by simp [plc, wid, plc_app (k := k + 1) (s := s) (t := t)]; congr 1; omega
  | k, false :: s, t => by simp [plc, wid, plc_app (k := k + 2) (s := s) (t := t)]; congr 1; omega
theorem plc_mem : ∀ {k : Nat} {s : List Bool} {n : Nat}, n ∈ plc k s → k < n ∧ n ≤ k + wid s
  | k, [], n, h => by simp [plc] at h
  | k, true :: s, n, h => by
    simp [plc] at h
    rcases h with rfl | h
    · simp [wid]
    · have := plc_mem h; simp [wid]; omega
  | k, false :: s, n, h => by
    simp [plc] at h
    have := plc_mem h
    simp [wid]; omega
/-- is the place after a prefix made? -/
theorem mem_plc {s t : List Bool} {b : Bool} : (wid s + 1 ∈ plc 0 (s ++ b :: t)) ↔ b = true := by
  rw [plc_app, List.mem_append]
  constructor
  · rintro (h | h)
    · have := plc_mem h; omega
    · cases b with
      | true => rfl
      | false =>
        simp [plc] at h
        have := plc_mem h
        omega
  · rintro rfl
    simp [plc]
theorem swp_len {α : Type} : ∀ {s : List Bool} {xs : List α}, wid s ≤ xs.length → (swp s xs).length = xs.length
  | [], xs, h => rfl
  | true :: s, x :: xs, h => by simp [wid] at h; simp [swp, swp_len h]
  | true :: s, [], h => by simp [wid] at h
  | false :: s, x :: y :: xs, h => by simp [wid] at h; simp [swp, swp_len h]
  | false :: s, [x], h => by simp [wid] at h
  | false :: s, [], h => by simp [wid] at h
theorem swp_true {α : Type} : ∀ {s : List Bool} {xs : List α}, wid s ≤ xs.length → swp (s ++ [true]) xs = swp s xs
  | [], xs, h => by cases xs <;> rfl
  | true :: s, x :: xs, h => by simp [wid] at h; simp [swp, swp_true h]
  | true :: s, [], h => by simp [wid] at h
  | false :: s, x :: y :: xs, h => by simp [wid] at h; simp [swp, swp_true h]
  | false :: s, [x], h => by simp [wid] at h
  | false :: s, [], h => by simp [wid] at h
theorem swp_false {α : Type} : ∀ {s : List Bool} {xs : List α} (h : wid s + 1 < xs.length), swp (s ++ [false]) xs = ((swp s xs).set (wid s) ((swp s xs)[wid s + 1]'(by rw [swp_len (by omega)]; exact h))).set (wid s + 1) ((swp s xs)[wid s]'(by rw [swp_len (by omega)]; omega))
  | [], x :: y :: xs, h => by simp [swp, wid]
  | [], [x], h => by simp [wid] at h
  | [], [], h => by simp [wid] at h
  | true :: s, x :: xs, h => by simp [wid] at h; simp [swp, wid, swp_false h]
  | true :: s, [], h => by simp [wid] at h
  | false :: s, x :: y :: xs, h => by
    simp [wid] at h
    have h' : wid s + 1 < xs.length := by omega
    simp [swp, wid, swp_false h']
  | false :: s, [x], h => by simp [wid] at h
  | false :: s, [], h => by simp [wid] at h
theorem swp_map {α β : Type} (f : α → β) : ∀ {s : List Bool} {xs : List α}, swp s (xs.map f) = (swp s xs).map f
  | [], xs => rfl
  | true :: s, x :: xs => by simp [swp, swp_map f]
  | true :: s, [] => rfl
  | false :: s, x :: y :: xs => by simp [swp, swp_map f]
  | false :: s, [x] => rfl
  | false :: s, [] => rfl
theorem swp_perm {α : Type} : ∀ {s : List Bool} {xs : List α}, (swp s xs).Perm xs
  | [], xs => .refl _
  | true :: s, x :: xs => (swp_perm (s := s)).cons x
  | true :: s, [] => .refl _
  | false :: s, x :: y :: xs => ((swp_perm (s := s) (xs := xs)).cons x |>.cons y).trans (.swap x y xs)
  | false :: s, [x] => .refl _
  | false :: s, [] => .refl _
theorem setT_nums {r : List Nat} {i : Int} {k n : Nat} (h : i = k) (hk : k < r.length) : setT (.lst (nums r)) (.int i) (.int n) = some (.lst (nums (r.set k n))) := by
  show (ixN (nums r).length i).bind (fun j => some (T.lst ((nums r).set j (.int n)))) = _
  rw [ixN_nat h (by simpa using hk)]
  show some (T.lst ((nums r).set k (.int n))) = _
  rw [nums_set]
/-- one step of a change -/
theorem step_true {s : List Bool} {a : List Nat} {i : Nat} (hi : i < s.length) (hw : wid s = a.length) (hb : s[i] = true) :
    wid (s.take i) + 1 ≤ a.length ∧ wid (s.take i) + 1 ∈ plc 0 s ∧ swp (s.take (i + 1)) a = swp (s.take i) a ∧ wid (s.take (i + 1)) = wid (s.take i) + 1 := by
  have e : s.take (i + 1) = s.take i ++ [true] := by rw [List.take_succ_eq_append_getElem hi, hb]
  have hs : s.take i ++ true :: s.drop (i + 1) = s := by rw [← hb]; simp
  have hw' : wid s = wid (s.take i) + wid (true :: s.drop (i + 1)) := by rw [← wid_app, hs]
  simp [wid] at hw'
  refine ⟨by omega, ?_, ?_, ?_⟩
  · have := mem_plc (s := s.take i) (t := s.drop (i + 1)) (b := true)
    rw [hs] at this
    exact this.mpr rfl
  · rw [e, swp_true (by omega)]
  · rw [e, wid_app]
    rfl
theorem step_false {s : List Bool} {a : List Nat} {i : Nat} (hi : i < s.length) (hw : wid s = a.length) (hb : s[i] = false) :
    ∃ (h : wid (s.take i) + 1 < (swp (s.take i) a).length), wid (s.take i) + 1 < a.length ∧ ¬ wid (s.take i) + 1 ∈ plc 0 s ∧ swp (s.take (i + 1)) a = ((swp (s.take i) a).set (wid (s.take i)) (swp (s.take i) a)[wid (s.take i) + 1]).set (wid (s.take i) + 1) ((swp (s.take i) a)[wid (s.take i)]) ∧ wid (s.take (i + 1)) = wid (s.take i) + 2 := by
  have e : s.take (i + 1) = s.take i ++ [false] := by rw [List.take_succ_eq_append_getElem hi, hb]
  have hs : s.take i ++ false :: s.drop (i + 1) = s := by rw [← hb]; simp
  have hw' : wid s = wid (s.take i) + wid (false :: s.drop (i + 1)) := by rw [← wid_app, hs]
  simp [wid] at hw'
  refine ⟨by rw [swp_len (by omega)]; omega, by omega, ?_, ?_, ?_⟩
  · have := mem_plc (s := s.take i) (t := s.drop (i + 1)) (b := false)
    rw [hs] at this
    simpa using this
  · rw [e, swp_false (by omega)]
  · rw [e, wid_app]
    rfl
theorem nums_but {r : List Nat} : (nums r).dropLast = nums r.dropLast := by simp [nums, List.map_dropLast]
theorem atI_end {r : List Nat} {b : Nat} (h : r.getLast? = some b) : atI (nums r) (-1) = some (.int b) := by
  rw [List.getLast?_eq_some_iff] at h
  obtain ⟨ys, rfl⟩ := h
  rw [nums_app, nums_one]
  exact atI_last
end VI

set_option Elab.async false
set_option linter.all false
set_option maxRecDepth 100000
set_option maxHeartbeats 4000000
/-! PS: rows and changes, run -/
namespace VI
open PySem L2
open PyProof.Rows hiding St
def mRounds : DenS := (sSeq (sRet (dCB (on1 tupleD) (dConsL (dO (dCB (rangeD) (dConsL (dO (dC (.int 1))) (dConsL (dO (dBin addD (dVar 0) (dC (.int 1)))) dNilL)))) dNilL))) sNil)
def fRounds : Fn := fnDen (fun i => decide (i ∈ ([] : List Nat))) 1 1 mRounds
def mTimes : DenS := (sSeq (sRet (dCB (on1 tupleD) (dConsL (dO (dComp [2] (dIter (dVar 1)) (gNm 2) dYes (dBinO ixD (dSl 0) (dO (dBin subD (dVar 2) (dC (.int 1))))))) dNilL))) sNil)
def fTimes : Fn := fnDen (fun i => decide (i ∈ ([] : List Nat))) 2 3 mTimes
def mLawAfter : DenS := (sSeq (sSet 2 (dCB (on1 listD) (dConsL (dSl 0) dNilL))) (sSeq (sSet 3 (dC (.int 1))) (sSeq (sFor (dIter (dCB (rangeD) (dConsL (dO (dCB (on1 lenD) (dConsL (dSl 0) dNilL))) dNilL))) (gNm 4) (sSeq (dIf (dBl (dBin leD (dVar 3) (dCB (on1 lenD) (dConsL (dSl 0) dNilL)))) (sSeq (dIf (dBl (dBinO (hasRul false) (dSl 3) (dSl 1))) (sSeq (sSet 3 (dBin addD (dVar 3) (dC (.int 1)))) sNil) (sSeq (sAsgG (dTup (dConsA (dBinO ixD (dSl 2) (dSl 3)) (dConsA (dBinO ixD (dSl 2) (dO (dBin subD (dVar 3) (dC (.int 1))))) dNilA))) (gTp 2 (gCn (gSubIx 2 (dBin subD (dVar 3) (dC (.int 1)))) (gCn (gSubIx 2 (dVar 3)) gNl)))) (sSeq (sSet 3 (dBin addD (dVar 3) (dC (.int 2)))) sNil))) sNil) sNil) sNil)) (sSeq (sRet (dCB (on1 tupleD) (dConsL (dSl 2) dNilL))) sNil))))
def fLawAfter : Fn := fnDen (fun i => decide (i ∈ ([2, 3, 4] : List Nat))) 2 5 mLawAfter
noncomputable def mChangeRow : DenS := (sSeq (sSet 2 (dCB (on1 listD) (dConsL (dO (dCall fRounds (dConsL (dSl 0) dNilL))) dNilL))) (sSeq (sSet 3 (dC (.int 1))) (sSeq (sWhile (dBl (dBin leD (dVar 3) (dVar 0))) (sSeq (dIf (dBl (dBinO (hasRul false) (dSl 3) (dSl 1))) (sSeq (sAug true iaddD 3 (dC (.int 1))) sNil) (sSeq (sAsgG (dTup (dConsA (dBinO ixD (dSl 2) (dSl 3)) (dConsA (dBinO ixD (dSl 2) (dO (dBin subD (dVar 3) (dC (.int 1))))) dNilA))) (gTp 2 (gCn (gSubIx 2 (dBin subD (dVar 3) (dC (.int 1)))) (gCn (gSubIx 2 (dVar 3)) gNl)))) (sSeq (sAug true iaddD 3 (dC (.int 2))) sNil))) sNil)) (sSeq (sRet (dCB (on1 tupleD) (dConsL (dSl 2) dNilL))) sNil))))
noncomputable def fChangeRow : Fn := fnDen (fun i => decide (i ∈ ([2, 3] : List Nat))) 2 4 mChangeRow
noncomputable def mAfter : DenS := (sSeq (sRet (dCall fTimes (dConsL (dSl 0) (dConsL (dO (dCall fChangeRow (dConsL (dO (dCB (on1 lenD) (dConsL (dSl 0) dNilL))) (dConsL (dSl 1) dNilL)))) dNilL)))) sNil)
noncomputable def fAfter : Fn := fnDen (fun i => decide (i ∈ ([] : List Nat))) 2 2 mAfter
noncomputable def mRowsFrom : DenS := (sSeq (sSet 2 (dLst (dConsA (dVar 0) dNilA))) (sSeq (sFor (dIter (dVar 1)) (gNm 3) (sSeq (sAppend 2 (dCall fAfter (dConsL (dO (dBinO ixD (dSl 2) (dO (dUn negD (dC (.int 1)))))) (dConsL (dSl 3) dNilL)))) sNil)) (sSeq (sRetV 2) sNil)))
noncomputable def fRowsFrom : Fn := fnDen (fun i => decide (i ∈ ([2, 3] : List Nat))) 2 4 mRowsFrom
def mLawRows : DenS := (sSeq (sSet 2 (dLst (dConsA (dVar 0) dNilA))) (sSeq (sFor (dIter (dVar 1)) (gNm 3) (sSeq (sAppend 2 (dCall fLawAfter (dConsL (dO (dBinO ixD (dSl 2) (dO (dUn negD (dC (.int 1)))))) (dConsL (dSl 3) dNilL)))) sNil)) (sSeq (sRetV 2) sNil)))
def fLawRows : Fn := fnDen (fun i => decide (i ∈ ([2, 3] : List Nat))) 2 4 mLawRows
noncomputable def mLastRow : DenS := (sSeq (sSet 2 (dVar 0)) (sSeq (sFor (dIter (dVar 1)) (gNm 3) (sSeq (sSet 2 (dCall fAfter (dConsL (dSl 2) (dConsL (dSl 3) dNilL)))) sNil)) (sSeq (sRetV 2) sNil)))
noncomputable def fLastRow : Fn := fnDen (fun i => decide (i ∈ ([2, 3] : List Nat))) 2 4 mLastRow
def mPlaceOf : DenS := (sSeq (sRet (dBin addD (dM indexA (dSl 0) (dConsA (dVar 1) dNilA)) (dC (.int 1)))) sNil)
def fPlaceOf : Fn := fnDen (fun i => decide (i ∈ ([] : List Nat))) 2 2 mPlaceOf
/-! ### rounds -/
/-- a row as data -/
def rowD (r : List Nat) : D := .tup (nums r)
theorem rounds_ok {n : Nat} (hn : n ≤ 1000) : fRounds [.lf (.int n)] = some (.lf (rowD (List.range' 1 n)), [.lf (.int n)]) := by
  refine (fn_ev rfl fun R hR => ?_).eq
  have hr : rangeD [.int 1, .int (n + 1)] = some (.lf (.rng 1 (n + 1) 1 n)) := by
    have := rangeD_two (a := 1) (b := n + 1) (by omega) (by omega) (by omega) (by omega)
    simpa using this
  have ht : tupleD (.rng 1 (n + 1) 1 n) = some (.lf (rowD (List.range' 1 n))) := by
    rw [tupleD_rng (by omega)]
    have := nums_rng (a := 1) (n := n)
    exact congrArg (fun x => some (T.lf (.tup x))) this
  simp [mRounds, hr, ht]
  exact .of (hR _ ⟨_, _, rfl, rfl, rfl⟩)
/-! ### times -/
def mulR (a b : List Nat) : List Nat := b.map fun p => a.getD (p - 1) 0
theorem times_ok {a b : List Nat} (hb : ∀ p ∈ b, 0 < p ∧ p ≤ a.length) (hl : b.length ≤ 1000) : fTimes [.lf (rowD a), .lf (rowD b)] = some (.lf (rowD (mulR a b)), [.lf (rowD a), .lf (rowD b)]) := by
  refine (fn_ev rfl fun R hR => ?_).eq
  have e := cRun_one (bs := b) (vs := [2]) (g := gNm 2) (mt := dYes) (me := dBinO ixD (dSl 0) (dO (dBin subD (dVar 2) (dC (.int 1))))) (ρ := [some (.lf (.tup (nums a))), some (.lf (.tup (nums b))), none]) (e := fun n : Nat => D.int (n : Int)) (k := fun p => D.int ((a.getD (p - 1) 0 : Nat) : Int)) (by omega) (by
    intro p hp es acc hacc
    obtain ⟨h1, h2⟩ := hb p hp
    have h3 : atI (nums a) ((p : Int) - 1) = some (.int (a[p - 1]'(by omega) : Nat)) := atI_nums (n := p - 1) (by omega) (by omega)
    simp [h3, xC3_ev hacc]
    rw [List.getElem?_eq_getElem (by omega)]
    rfl)
  have e : cRun [2] (gNm 2) dYes (dBinO ixD (dSl 0) (dO (dBin subD (dVar 2) (dC (.int 1))))) (nums b) [] [some (.lf (.tup (nums a))), some (.lf (.tup (nums b))), none] = some (nums (mulR a b), [some (.lf (.tup (nums a))), some (.lf (.tup (nums b))), none]) := by
    refine e.trans ?_
    simp [nums, mulR, Function.comp_def]
  simp [mTimes, rowD, e]
  exact .of (hR _ ⟨_, _, rfl, rfl, rfl⟩)
/-! ### the law's after -/
def chD (s : List Bool) : D := .tup (nums (plc 0 s))
theorem lawAfter_ok {s : List Bool} {a : List Nat} (hw : wid s = a.length) (hl : a.length ≤ 1000) : fLawAfter [.lf (rowD a), .lf (chD s)] = some (.lf (rowD (swp s a)), [.lf (rowD a), .lf (chD s)]) := by
  refine (fn_ev rfl fun R hR => ?_).eq
  have hr : rangeD [.int a.length] = some (.lf (.rng 0 a.length 1 a.length)) := by
    have := rangeD_one (b := a.length) (by omega) (by omega)
    simpa using this
  simp [mLawAfter, rowD, chD, hr]
  generalize hF : fRun _ _ _ _ = F
  obtain ⟨ρ', ⟨o, rfl⟩, rfl⟩ := fRun_inv hF (fun i ρ => ∃ o : Option T, ρ = [some (.lf (.tup (nums a))), some (.lf (.tup (nums (plc 0 s)))), some (.lst (nums (swp (s.take i) a))), some (.lf (.int (wid (s.take i) + 1 : Nat))), o])
    ⟨none, by simp [swp, wid]⟩ (by
      rintro i hi ρ es R hR ⟨o, rfl⟩
      simp at hi
      by_cases h1 : i < s.length
      · cases hb : s[i] with
        | true =>
          obtain ⟨h2, h3, h4, h5⟩ := step_true h1 hw hb
          have h2' : ((wid (s.take i) : Int) + 1 ≤ a.length) := by omega
          have h6 := has_tup (r := plc 0 s) (n := wid (s.take i) + 1) (b := false)
          simp [h3] at h6
          simp [h2', h6]
          exact .of (hR _ ⟨_, by rw [h4, h5]; rfl⟩)
        | false =>
          obtain ⟨h0, h2, h3, h4, h5⟩ := step_false h1 hw hb
          have h2' : ((wid (s.take i) : Int) + 1 ≤ a.length) := by omega
          have h6 := has_tup (r := plc 0 s) (n := wid (s.take i) + 1) (b := false)
          simp [h3] at h6
          have h7 := atI_nums (r := swp (s.take i) a) (i := (wid (s.take i) : Int)) rfl (by omega)
          have h8 := atI_nums (r := swp (s.take i) a) (i := (wid (s.take i) : Int) + 1) (n := wid (s.take i) + 1) rfl (by omega)
          have h9 := setT_nums (r := swp (s.take i) a) (i := (wid (s.take i) : Int)) (n := (swp (s.take i) a)[wid (s.take i) + 1]) rfl (by omega)
          have h10 := setT_nums (r := (swp (s.take i) a).set (wid (s.take i)) (swp (s.take i) a)[wid (s.take i) + 1]) (i := (wid (s.take i) : Int) + 1) (k := wid (s.take i) + 1) (n := (swp (s.take i) a)[wid (s.take i)]) rfl (by simp; omega)
          have h11 : (wid (s.take i) : Int) + 1 - 1 = wid (s.take i) := by omega
          simp [h2', h6, h11, h7, h8, h9, h10]
          exact .of (hR _ ⟨_, by rw [h4, h5]; simp; exact ⟨by omega, rfl⟩⟩)
      · have h2 : s.take i = s := List.take_of_length_le (by omega)
        have h3 : s.take (i + 1) = s := List.take_of_length_le (by omega)
        have h4 : ¬ ((wid s : Int) + 1 ≤ a.length) := by omega
        simp [h2, h4]
        exact .of (hR _ ⟨_, by rw [h3]; simp; rfl⟩))
  have h1 : s.take a.length = s := List.take_of_length_le (by have := len_wid (s := s); omega)
  simp [h1]
  exact .of (hR _ ⟨_, _, rfl, rfl, rfl⟩)
theorem changeRow_ok {s : List Bool} {n : Nat} (hw : wid s = n) (hl : n ≤ 1000) : fChangeRow [.lf (.int n), .lf (chD s)] = some (.lf (rowD (swp s (List.range' 1 n))), [.lf (.int n), .lf (chD s)]) := by
  refine (fn_ev rfl fun R hR => ?_).eq
  have hr := rounds_ok hl
  generalize ha : List.range' 1 n = a at hr ⊢
  have hn : a.length = n := by rw [← ha]; simp
  subst hn
  simp [mChangeRow, rowD, chD, hr]
  generalize hF : sWhile _ _ _ = F
  obtain ⟨p, ⟨rfl⟩, rfl⟩ := while_inv hF (fun i ρ => ρ = [some (.lf (.int a.length)), some (.lf (.tup (nums (plc 0 s)))), some (.lst (nums (swp (s.take i) a))), some (.lf (.int (wid (s.take i) + 1 : Nat)))]) s.length
    (by simp [swp, wid, ha]) (by
      rintro i h1 ρ R hR rfl
      cases hb : s[i] with
      | true =>
        obtain ⟨h2, h3, h4, h5⟩ := step_true h1 hw hb
        have h2' : ((wid (s.take i) : Int) + 1 ≤ a.length) := by omega
        have h6 := has_tup (r := plc 0 s) (n := wid (s.take i) + 1) (b := false)
        simp [h3] at h6
        simp [h2', h6, iaddD]
        exact .of (hR _ (by rw [h4, h5]; rfl))
      | false =>
        obtain ⟨h0, h2, h3, h4, h5⟩ := step_false h1 hw hb
        have h2' : ((wid (s.take i) : Int) + 1 ≤ a.length) := by omega
        have h6 := has_tup (r := plc 0 s) (n := wid (s.take i) + 1) (b := false)
        simp [h3] at h6
        have h7 := atI_nums (r := swp (s.take i) a) (i := (wid (s.take i) : Int)) rfl (by omega)
        have h8 := atI_nums (r := swp (s.take i) a) (i := (wid (s.take i) : Int) + 1) (n := wid (s.take i) + 1) rfl (by omega)
        have h9 := setT_nums (r := swp (s.take i) a) (i := (wid (s.take i) : Int)) (n := (swp (s.take i) a)[wid (s.take i) + 1]) rfl (by omega)
        have h10 := setT_nums (r := (swp (s.take i) a).set (wid (s.take i)) (swp (s.take i) a)[wid (s.take i) + 1]) (i := (wid (s.take i) : Int) + 1) (k := wid (s.take i) + 1) (n := (swp (s.take i) a)[wid (s.take i)]) rfl (by simp; omega)
        have h11 : (wid (s.take i) : Int) + 1 - 1 = wid (s.take i) := by omega
        simp [h2', h6, h11, h7, h8, h9, h10, iaddD]
        exact .of (hR _ (by rw [h4, h5]; simp; omega)))
    (Q := fun p => p = (.nx, [some (.lf (.int a.length)), some (.lf (.tup (nums (plc 0 s)))), some (.lst (nums (swp s a))), some (.lf (.int (wid s + 1 : Nat)))])) (by
      rintro ρ rfl
      have h4 : ¬ ((wid s : Int) + 1 ≤ a.length) := by omega
      simp [h4]
      exact .of (by simp))
  simp
  exact .of (hR _ ⟨_, _, rfl, rfl, by rw [ha]; rfl⟩)
theorem mul_swp {s : List Bool} {a : List Nat} : mulR a (swp s (List.range' 1 a.length)) = swp s a := by
  have e : (List.range' 1 a.length).map (fun p => a.getD (p - 1) 0) = a := by
    apply List.ext_getElem
    · simp
    · intro i h1 h2
      simp
      simp [show 1 + i - 1 = i by omega, h2]
  unfold mulR
  rw [← swp_map, e]
theorem after_ok {s : List Bool} {a : List Nat} (hw : wid s = a.length) (hl : a.length ≤ 1000) : fAfter [.lf (rowD a), .lf (chD s)] = some (.lf (rowD (swp s a)), [.lf (rowD a), .lf (chD s)]) := by
  refine (fn_ev rfl fun R hR => ?_).eq
  have h1 := changeRow_ok hw hl
  have h2 := times_ok (a := a) (b := swp s (List.range' 1 a.length)) (by
    intro p hp
    have := swp_perm.mem_iff.mp hp
    simp at this
    omega) (by rw [swp_len (by simp; omega)]; simpa using hl)
  rw [mul_swp] at h2
  have h3 : lenD (rowD a) = some (.lf (.int a.length)) := by simp [rowD]
  simp [mAfter, h1, h2, h3]
  exact .of (hR _ ⟨_, _, rfl, rfl, rfl⟩)
/-! ### rows -/
def rowsOf : List (List Bool) → List Nat → List (List Nat)
  | [], a => [a]
  | s :: css, a => a :: rowsOf css (swp s a)
def lastOf : List (List Bool) → List Nat → List Nat
  | [], a => a
  | s :: css, a => lastOf css (swp s a)
theorem lastOf_app : ∀ {cs ds : List (List Bool)} {a : List Nat}, lastOf (cs ++ ds) a = lastOf ds (lastOf cs a)
  | [], ds, a => rfl
  | s :: cs, ds, a => lastOf_app (cs := cs)
theorem lastOf_len : ∀ {cs : List (List Bool)} {a : List Nat}, (∀ s ∈ cs, wid s = a.length) → (lastOf cs a).length = a.length
  | [], a, h => rfl
  | s :: cs, a, h => by
    have h1 := h s (by simp)
    have h2 : (swp s a).length = a.length := swp_len (by omega)
    rw [lastOf, lastOf_len (fun t ht => by rw [h2]; exact h t (by simp [ht])), h2]
theorem rowsOf_app : ∀ {cs : List (List Bool)} {s : List Bool} {a : List Nat}, rowsOf (cs ++ [s]) a = rowsOf cs a ++ [swp s (lastOf cs a)]
  | [], s, a => rfl
  | t :: cs, s, a => by simp [rowsOf, lastOf, rowsOf_app (cs := cs)]
theorem rowsOf_last : ∀ {cs : List (List Bool)} {a : List Nat}, (rowsOf cs a).getLast? = some (lastOf cs a)
  | [], a => rfl
  | s :: cs, a => by
    have := rowsOf_last (cs := cs) (a := swp s a)
    simp only [rowsOf, lastOf]
    rw [List.getLast?_cons, this]
    rfl
theorem rowsOf_len : ∀ {cs : List (List Bool)} {a : List Nat}, (rowsOf cs a).length = cs.length + 1
  | [], a => rfl
  | s :: cs, a => by simp [rowsOf, rowsOf_len (cs := cs)]
def chsD (cs : List (List Bool)) : D := .tup (cs.map chD)
def rowsD (rs : List (List Nat)) : List D := rs.map rowD
/-- the loop of rows, of either program -/
theorem rows_run {f : Fn} {A : Nat → Bool} (hA : A 0 = false ∧ A 1 = false) {cs : List (List Bool)} {a : List Nat}
    (hf : ∀ s b, s ∈ cs → b.length = a.length → f [.lf (rowD b), .lf (chD s)] = some (.lf (rowD (swp s b)), [.lf (rowD b), .lf (chD s)]))
    (hw : ∀ s ∈ cs, wid s = a.length) (hc : cs.length ≤ 100000) :
    fnDen A 2 4 (sSeq (sSet 2 (dLst (dConsA (dVar 0) dNilA))) (sSeq (sFor (dIter (dVar 1)) (gNm 3) (sSeq (sAppend 2 (dCall f (dConsL (dO (dBinO ixD (dSl 2) (dO (dUn negD (dC (.int 1)))))) (dConsL (dSl 3) dNilL)))) sNil)) (sSeq (sRetV 2) sNil))) [.lf (rowD a), .lf (chsD cs)] = some (.lst (rowsD (rowsOf cs a)), [.lf (rowD a), .lf (chsD cs)]) := by
  refine (fn_ev rfl fun R hR => ?_).eq
  simp [chsD]
  generalize hF : fRun _ _ _ _ = F
  obtain ⟨ρ', ⟨o, rfl⟩, rfl⟩ := fRun_inv hF (fun i ρ => ∃ o : Option T, ρ = [some (.lf (rowD a)), some (.lf (chsD cs)), some (.lst (rowsD (rowsOf (cs.take i) a))), o])
    ⟨none, by simp [rowsOf, rowsD, chsD]⟩ (by
      rintro i hi ρ es R hR ⟨o, rfl⟩
      simp at hi
      have h1 : cs.take (i + 1) = cs.take i ++ [cs[i]] := by rw [List.take_succ_eq_append_getElem hi]
      have h2 : (lastOf (cs.take i) a).length = a.length := lastOf_len fun s hs => hw s (List.mem_of_mem_take hs)
      have h3 := hf cs[i] (lastOf (cs.take i) a) (by simp) h2
      have h4 : atI (rowsD (rowsOf (cs.take i) a)) (-1) = some (rowD (lastOf (cs.take i) a)) := by
        have e := rowsOf_last (cs := cs.take i) (a := a)
        rw [List.getLast?_eq_some_iff] at e
        obtain ⟨ys, e⟩ := e
        rw [e]
        simp [rowsD]
      simp [h3, h4]
      rw [xApp2_ev (lt_size (by simp [rowsD, rowsOf_len]; omega))]
      simp
      exact .of (hR _ ⟨_, by rw [h1, rowsOf_app]; simp [rowsD]; rfl⟩))
  simp [rowsD, chsD]
  refine .of (hR _ ⟨_, _, rfl, ?_, rfl⟩)
  simp [backArgs, hA, chsD]
theorem rowsFrom_ok {cs : List (List Bool)} {a : List Nat} (hw : ∀ s ∈ cs, wid s = a.length) (hl : a.length ≤ 1000) (hc : cs.length ≤ 100000) : fRowsFrom [.lf (rowD a), .lf (chsD cs)] = some (.lst (rowsD (rowsOf cs a)), [.lf (rowD a), .lf (chsD cs)]) :=
  rows_run ⟨rfl, rfl⟩ (fun s b hs hb => after_ok ((hw s hs).trans hb.symm) (by omega)) hw hc
theorem lawRows_ok {cs : List (List Bool)} {a : List Nat} (hw : ∀ s ∈ cs, wid s = a.length) (hl : a.length ≤ 1000) (hc : cs.length ≤ 100000) : fLawRows [.lf (rowD a), .lf (chsD cs)] = some (.lst (rowsD (rowsOf cs a)), [.lf (rowD a), .lf (chsD cs)]) :=
  rows_run ⟨rfl, rfl⟩ (fun s b hs hb => lawAfter_ok ((hw s hs).trans hb.symm) (by omega)) hw hc
theorem lastRow_ok {cs : List (List Bool)} {a : List Nat} (hw : ∀ s ∈ cs, wid s = a.length) (hl : a.length ≤ 1000) (hc : cs.length ≤ 100000) : fLastRow [.lf (rowD a), .lf (chsD cs)] = some (.lf (rowD (lastOf cs a)), [.lf (rowD a), .lf (chsD cs)]) := by
  refine (fn_ev rfl fun R hR => ?_).eq
  simp [mLastRow, chsD]
  generalize hF : fRun _ _ _ _ = F
  obtain ⟨ρ', ⟨o, rfl⟩, rfl⟩ := fRun_inv hF (fun i ρ => ∃ o : Option T, ρ = [some (.lf (rowD a)), some (.lf (chsD cs)), some (.lf (rowD (lastOf (cs.take i) a))), o])
    ⟨none, by simp [lastOf, chsD]⟩ (by
      rintro i hi ρ es R hR ⟨o, rfl⟩
      simp at hi
      have h1 : cs.take (i + 1) = cs.take i ++ [cs[i]] := by rw [List.take_succ_eq_append_getElem hi]
      have h2 : (lastOf (cs.take i) a).length = a.length := lastOf_len fun s hs => hw s (List.mem_of_mem_take hs)
      have h3 := after_ok (s := cs[i]) (a := lastOf (cs.take i) a) (by rw [h2]; exact hw _ (by simp)) (by omega)
      simp [h3]
      exact .of (hR _ ⟨_, by rw [h1, lastOf_app]; rfl⟩))
  simp [chsD]
  exact .of (hR _ ⟨_, _, rfl, rfl, rfl⟩)
theorem placeOf_ok {r : List Nat} {b : Nat} (h : b ∈ r) : fPlaceOf [.lf (rowD r), .lf (.int b)] = some (.lf (.int (r.idxOf b + 1 : Nat)), [.lf (rowD r), .lf (.int b)]) := by
  refine (fn_ev rfl fun R hR => ?_).eq
  have h1 := index_tup h
  simp [mPlaceOf, rowD, h1]
  exact .of (hR _ ⟨_, _, rfl, rfl, rfl⟩)
end VI

set_option Elab.async false
set_option linter.all false
set_option maxRecDepth 100000
set_option maxHeartbeats 4000000
/-! PO: the walk of a bell through a method, plainly -/
namespace VI
/-! ### lists without repeats -/
theorem len_sub {α : Type} [BEq α] [LawfulBEq α] : ∀ {l m : List α}, l.Nodup → (∀ x ∈ l, x ∈ m) → l.length ≤ m.length
  | [], m, _, _ => by simp
  | x :: l, m, h, s => by
    have hx := s x (by simp)
    have h1 := List.nodup_cons.mp h
    have h2 : l.length ≤ (m.erase x).length := len_sub h1.2 fun y hy => (List.mem_erase_of_ne (fun e : y = x => h1.1 (e ▸ hy))).mpr (s y (by simp [hy]))
    have h3 := List.length_erase_of_mem hx
    have h4 := List.length_pos_of_mem hx
    simp
    omega
theorem idx_map {f : Nat → Nat} : ∀ {q : List Nat} {p : Nat}, (∀ x ∈ q, f x = f p → x = p) → (q.map f).idxOf (f p) = q.idxOf p
  | [], p, h => rfl
  | x :: q, p, h => by
    have ih := idx_map (f := f) (q := q) (p := p) fun y hy => h y (by simp [hy])
    rw [List.map_cons, List.idxOf_cons, List.idxOf_cons, ih]
    by_cases e : x = p
    · subst e
      rw [show (f x == f x) = true from beq_self_eq_true _, show (x == x) = true from beq_self_eq_true _]
    · have e' : f x ≠ f p := fun k => e (h x (by simp) k)
      rw [beq_false_of_ne e', beq_false_of_ne e]
def up (n : Nat) : List Nat := List.range' 1 n
@[simp] theorem up_len {n : Nat} : (up n).length = n := by simp [up]
theorem mem_up {n p : Nat} : p ∈ up n ↔ 1 ≤ p ∧ p ≤ n := by simp [up]; omega
theorem up_nodup {n : Nat} : (up n).Nodup := List.nodup_range'
theorem up_idx {n p : Nat} (h1 : 1 ≤ p) (h2 : p ≤ n) : (up n).idxOf p + 1 = p := by
  have h : p - 1 < (up n).length := by simp; omega
  have e : (up n)[p - 1] = p := by simp [up]; omega
  have := up_nodup (n := n) |>.idxOf_getElem (p - 1) h
  rw [e] at this
  omega
/-! ### a permutation of 1..n -/
structure Row (n : Nat) (r : List Nat) : Prop where
  perm : r.Perm (up n)
theorem Row.len {n : Nat} {r : List Nat} (h : Row n r) : r.length = n := by simpa using h.perm.length_eq
theorem Row.nodup {n : Nat} {r : List Nat} (h : Row n r) : r.Nodup := h.perm.nodup_iff.mpr up_nodup
theorem Row.mem {n p : Nat} {r : List Nat} (h : Row n r) : p ∈ r ↔ 1 ≤ p ∧ p ≤ n := h.perm.mem_iff.trans mem_up
theorem Row.up {n : Nat} : Row n (up n) := ⟨.refl _⟩
theorem Row.swp {n : Nat} {r : List Nat} (h : Row n r) (s : List Bool) : Row n (swp s r) := ⟨swp_perm.trans h.perm⟩
theorem Row.last {n : Nat} : ∀ {cs : List (List Bool)} {r : List Nat}, Row n r → Row n (lastOf cs r)
  | [], r, h => h
  | s :: cs, r, h => Row.last (cs := cs) (h.swp s)
theorem Row.rows {n : Nat} : ∀ {cs : List (List Bool)} {r : List Nat}, Row n r → ∀ q ∈ rowsOf cs r, Row n q
  | [], r, h, q, hq => by simp [rowsOf] at hq; exact hq ▸ h
  | s :: cs, r, h, q, hq => by
    simp only [rowsOf, List.mem_cons] at hq
    rcases hq with rfl | hq
    · exact h
    · exact Row.rows (cs := cs) (h.swp s) q hq
/-- a bell's place -/
def pos (r : List Nat) (p : Nat) : Nat := r.idxOf p + 1
theorem Row.pos {n p : Nat} {r : List Nat} (h : Row n r) (hp : p ∈ r) : 1 ≤ pos r p ∧ pos r p ≤ n := by
  have := List.idxOf_lt_length_of_mem hp
  rw [h.len] at this
  unfold VI.pos
  omega
theorem Row.at_ {n p : Nat} {r : List Nat} (h : Row n r) (hp : p ∈ r) : r.getD (VI.pos r p - 1) 0 = p := by
  have := List.idxOf_lt_length_of_mem hp
  simp [VI.pos, this]
theorem Row.inj {n p q : Nat} {r : List Nat} (h : Row n r) (hp : p ∈ r) (hq : q ∈ r) (e : VI.pos r p = VI.pos r q) : p = q := by
  rw [← h.at_ hp, ← h.at_ hq, e]
/-- from another row the bells go as from rounds -/
theorem Row.as {n : Nat} {r : List Nat} (h : Row n r) : (VI.up n).map (fun p => r.getD (p - 1) 0) = r := by
  apply List.ext_getElem
  · simp [h.len]
  · intro i h1 h2
    simp [VI.up]
    simp [show 1 + i - 1 = i by omega, h2]
theorem rowsOf_map (f : Nat → Nat) : ∀ {cs : List (List Bool)} {a : List Nat}, rowsOf cs (a.map f) = (rowsOf cs a).map (List.map f)
  | [], a => rfl
  | s :: cs, a => by simp [rowsOf, swp_map, rowsOf_map f (cs := cs)]
theorem lastOf_map (f : Nat → Nat) : ∀ {cs : List (List Bool)} {a : List Nat}, lastOf cs (a.map f) = (lastOf cs a).map f
  | [], a => rfl
  | s :: cs, a => by simp [lastOf, swp_map, lastOf_map f (cs := cs)]
theorem Row.from_ {n p : Nat} {r q : List Nat} (h : Row n r) (hq : Row n q) (hp : p ∈ r) : VI.pos (q.map fun p => r.getD (p - 1) 0) p = VI.pos q (VI.pos r p) := by
  have e := h.at_ hp
  have hb := h.pos hp
  unfold VI.pos at *
  congr 1
  conv => lhs; rw [← e]
  refine idx_map (f := fun p => r.getD (p - 1) 0) fun x hx k => ?_
  have hx := hq.mem.mp hx
  have hx' : x - 1 < r.length := by rw [h.len]; omega
  have hp' := List.idxOf_lt_length_of_mem hp
  simp [hx'] at k
  rw [List.getElem?_eq_getElem hp'] at k
  have := (List.getElem_inj h.nodup).mp k
  omega
/-! ### a method: its changes, all of one stage -/
structure Meth (n : Nat) (cs : List (List Bool)) : Prop where
  wid : ∀ s ∈ cs, wid s = n
  some : cs ≠ []
  short : cs.length ≤ 100
/-- the row at the lead's end -/
def hd (n : Nat) (cs : List (List Bool)) : List Nat := lastOf cs (up n)
theorem Row.hd {n : Nat} {cs : List (List Bool)} : Row n (hd n cs) := Row.up.last
/-- where a bell goes in one lead -/
def sg (n : Nat) (cs : List (List Bool)) (p : Nat) : Nat := pos (hd n cs) p
def pth (n : Nat) (cs : List (List Bool)) (p : Nat) : List Nat := (rowsOf cs (up n)).map fun r => pos r p
theorem sg_in {n p : Nat} {cs : List (List Bool)} (h : 1 ≤ p ∧ p ≤ n) : 1 ≤ sg n cs p ∧ sg n cs p ≤ n := Row.hd.pos (Row.hd.mem.mpr h)
theorem sg_inj {n p q : Nat} {cs : List (List Bool)} (h : 1 ≤ p ∧ p ≤ n) (h' : 1 ≤ q ∧ q ≤ n) (e : sg n cs p = sg n cs q) : p = q := Row.hd.inj (Row.hd.mem.mpr h) (Row.hd.mem.mpr h') e
/-- k leads on -/
def sgk (n : Nat) (cs : List (List Bool)) : Nat → Nat → Nat
  | 0, p => p
  | k + 1, p => sg n cs (sgk n cs k p)
theorem sgk_in {n p : Nat} {cs : List (List Bool)} (h : 1 ≤ p ∧ p ≤ n) : ∀ k, 1 ≤ sgk n cs k p ∧ sgk n cs k p ≤ n
  | 0 => h
  | k + 1 => sg_in (sgk_in h k)
theorem sgk_add {n p : Nat} {cs : List (List Bool)} : ∀ {j k : Nat}, sgk n cs (j + k) p = sgk n cs j (sgk n cs k p)
  | 0, k => by simp [sgk]
  | j + 1, k => by
    have : j + 1 + k = (j + k) + 1 := by omega
    rw [this, sgk, sgk, sgk_add (j := j) (k := k)]
theorem sgk_inj {n p q : Nat} {cs : List (List Bool)} (h : 1 ≤ p ∧ p ≤ n) (h' : 1 ≤ q ∧ q ≤ n) : ∀ {k : Nat}, sgk n cs k p = sgk n cs k q → p = q
  | 0, e => e
  | k + 1, e => sgk_inj h h' (sg_inj (sgk_in h k) (sgk_in h' k) e)
/-- round again within n leads -/
theorem back_ {n p : Nat} {cs : List (List Bool)} (h : 1 ≤ p ∧ p ≤ n) : ∃ k, 1 ≤ k ∧ k ≤ n ∧ sgk n cs k p = p := by
  false_or_by_contra
  rename_i hn
  have H : ∀ i j, i < j → j ≤ n → sgk n cs i p ≠ sgk n cs j p := by
    intro i j hij hj e
    refine hn ⟨j - i, by omega, by omega, ?_⟩
    rw [show j = i + (j - i) by omega, sgk_add] at e
    exact (sgk_inj h (sgk_in h _) e).symm
  have hd : ((List.range (n + 1)).map fun k => sgk n cs k p).Nodup := by
    rw [List.Nodup, List.pairwise_map]
    refine List.Pairwise.imp_of_mem (R := (· < ·)) (fun {a b} ha hb hab => H a b hab (by simp at hb; omega)) List.pairwise_lt_range
  have := len_sub (m := up n) hd (by
    intro x hx
    simp at hx
    obtain ⟨k, _, rfl⟩ := hx
    exact mem_up.mpr (sgk_in h k))
  simp at this
  omega
/-- the first return -/
theorem leastK {P : Nat → Prop} : ∀ {k : Nat}, P k → ∃ j, j ≤ k ∧ P j ∧ ∀ i, i < j → ¬ P i := by
  intro k
  induction k using Nat.strongRecOn with
  | ind k ih =>
    intro h
    by_cases e : ∃ i, i < k ∧ P i
    · obtain ⟨i, hi, hp⟩ := e
      obtain ⟨j, h1, h2, h3⟩ := ih i hi hp
      exact ⟨j, by omega, h2, h3⟩
    · exact ⟨k, by omega, h, fun i hi hp => e ⟨i, hi, hp⟩⟩
/-- the length of p's circle -/
def Len (n : Nat) (cs : List (List Bool)) (p l : Nat) : Prop := 1 ≤ l ∧ l ≤ n ∧ sgk n cs l p = p ∧ ∀ i, 1 ≤ i → i < l → sgk n cs i p ≠ p
theorem len_ex {n p : Nat} {cs : List (List Bool)} (h : 1 ≤ p ∧ p ≤ n) : ∃ l, Len n cs p l := by
  obtain ⟨k, h1, h2, h3⟩ := back_ (cs := cs) h
  obtain ⟨j, h4, h5, h6⟩ := leastK (P := fun k => 1 ≤ k ∧ sgk n cs k p = p) ⟨h1, h3⟩
  exact ⟨j, h5.1, by omega, h5.2, fun i hi hl e => h6 i hl ⟨hi, e⟩⟩
theorem sgk_mul {n p l : Nat} {cs : List (List Bool)} (h : sgk n cs l p = p) : ∀ k, sgk n cs (l * k) p = p
  | 0 => rfl
  | k + 1 => by rw [Nat.mul_succ, Nat.add_comm, sgk_add, sgk_mul h k, h]
theorem sgk_mod {n p l : Nat} {cs : List (List Bool)} (h : sgk n cs l p = p) (k : Nat) : sgk n cs k p = sgk n cs (k % l) p := by
  conv => lhs; rw [← Nat.mod_add_div k l]
  rw [sgk_add, sgk_mul h]
theorem len_dvd {n p l k : Nat} {cs : List (List Bool)} (h : Len n cs p l) (e : sgk n cs k p = p) : l ∣ k := by
  rw [sgk_mod h.2.2.1] at e
  have := h.1
  by_cases h0 : k % l = 0
  · exact Nat.dvd_of_mod_eq_zero h0
  · exact absurd e (h.2.2.2 _ (by omega) (Nat.mod_lt _ (by omega)))
theorem len_un {n p l m : Nat} {cs : List (List Bool)} (h : Len n cs p l) (h' : Len n cs p m) : l = m :=
  Nat.dvd_antisymm (len_dvd h h'.2.2.1) (len_dvd h' h.2.2.1)
/-- along the circle the length stays -/
theorem len_on {n p l : Nat} {cs : List (List Bool)} (hp : 1 ≤ p ∧ p ≤ n) (h : Len n cs p l) (k : Nat) : Len n cs (sgk n cs k p) l := by
  have c : ∀ i, sgk n cs i (sgk n cs k p) = sgk n cs k (sgk n cs i p) := fun i => by rw [← sgk_add, ← sgk_add, Nat.add_comm]
  refine ⟨h.1, h.2.1, by rw [c, h.2.2.1], fun i h1 h2 e => h.2.2.2 i h1 h2 ?_⟩
  rw [c] at e
  exact sgk_inj (sgk_in hp i) hp e
/-- enough bells of each length that occurs -/
theorem count8 {f : Nat → Nat} : ∀ {xs : List Nat}, (∀ x ∈ xs, 1 ≤ f x ∧ f x ≤ 8) → xs.length = xs.countP (fun x => f x == 1) + xs.countP (fun x => f x == 2) + xs.countP (fun x => f x == 3) + xs.countP (fun x => f x == 4) + xs.countP (fun x => f x == 5) + xs.countP (fun x => f x == 6) + xs.countP (fun x => f x == 7) + xs.countP (fun x => f x == 8)
  | [], _ => by simp
  | x :: xs, h => by
    have ih := count8 (f := f) (xs := xs) fun y hy => h y (by simp [hy])
    have hx := h x (by simp)
    simp only [List.countP_cons, List.length_cons]
    obtain ⟨h1, h2⟩ := hx
    have : f x = 1 ∨ f x = 2 ∨ f x = 3 ∨ f x = 4 ∨ f x = 5 ∨ f x = 6 ∨ f x = 7 ∨ f x = 8 := by omega
    rcases this with e | e | e | e | e | e | e | e <;> simp [e] <;> omega
theorem lcm8b : ∀ a b c d e f g h : Bool, (a.toNat + 2 * b.toNat + 3 * c.toNat + 4 * d.toNat + 5 * e.toNat + 6 * f.toNat + 7 * g.toNat + 8 * h.toNat ≤ 8) →
    ((List.range 16).any fun m => decide (1 ≤ m) && (!a || m % 1 == 0) && (!b || m % 2 == 0) && (!c || m % 3 == 0) && (!d || m % 4 == 0) && (!e || m % 5 == 0) && (!f || m % 6 == 0) && (!g || m % 7 == 0) && (!h || m % 8 == 0)) = true := by decide +kernel
theorem lcm8 (a b c d e f g h : Bool) (H : a.toNat + 2 * b.toNat + 3 * c.toNat + 4 * d.toNat + 5 * e.toNat + 6 * f.toNat + 7 * g.toNat + 8 * h.toNat ≤ 8) :
    ∃ m : Nat, m < 16 ∧ 1 ≤ m ∧ (a = true → m % 1 = 0) ∧ (b = true → m % 2 = 0) ∧ (c = true → m % 3 = 0) ∧ (d = true → m % 4 = 0) ∧ (e = true → m % 5 = 0) ∧ (f = true → m % 6 = 0) ∧ (g = true → m % 7 = 0) ∧ (h = true → m % 8 = 0) := by
  have := lcm8b a b c d e f g h H
  simp only [List.any_eq_true, List.mem_range, Bool.and_eq_true, Bool.or_eq_true, Bool.not_eq_true', beq_iff_eq, decide_eq_true_eq] at this
  obtain ⟨m, hm, ⟨⟨⟨⟨⟨⟨⟨⟨h0, h1⟩, h2⟩, h3⟩, h4⟩, h5⟩, h6⟩, h7⟩, h8⟩⟩ := this
  refine ⟨m, hm, h0, ?_, ?_, ?_, ?_, ?_, ?_, ?_, ?_⟩ <;> intro e <;> simp_all
theorem order_ex {n : Nat} {cs : List (List Bool)} (hn : n ≤ 8) : ∃ m, 1 ≤ m ∧ m ≤ 15 ∧ ∀ p, 1 ≤ p ∧ p ≤ n → sgk n cs m p = p := by
  have hf : ∃ f : Nat → Nat, ∀ p, 1 ≤ p ∧ p ≤ n → Len n cs p (f p) := by
    refine ⟨fun p => if h : 1 ≤ p ∧ p ≤ n then Classical.choose (len_ex (cs := cs) h) else 0, fun p h => ?_⟩
    simp only [h, and_self, dif_pos]
    exact Classical.choose_spec (len_ex (cs := cs) h)
  obtain ⟨f, hf⟩ := hf
  have h8 : ∀ x ∈ up n, 1 ≤ f x ∧ f x ≤ 8 := fun x hx => by
    have := hf x (mem_up.mp hx)
    exact ⟨this.1, by have := this.2.1; omega⟩
  have hc := count8 h8
  rw [up_len] at hc
  have key : ∀ d, (∃ x ∈ up n, f x = d) → d ≤ (up n).countP (fun x => f x == d) := by
    rintro d ⟨x, hx, rfl⟩
    have hx := mem_up.mp hx
    have hl := hf x hx
    rw [List.countP_eq_length_filter]
    have nd : ((List.range (f x)).map fun k => sgk n cs k x).Nodup := by
      rw [List.Nodup, List.pairwise_map]
      refine List.Pairwise.imp_of_mem (R := (· < ·)) (fun {a b} ha hb hab e => ?_) List.pairwise_lt_range
      simp at hb
      rw [show b = a + (b - a) by omega, sgk_add] at e
      exact hl.2.2.2 (b - a) (by omega) (by omega) (sgk_inj hx (sgk_in hx _) e).symm
    have := len_sub (m := (up n).filter fun y => f y == f x) nd (by
      intro y hy
      simp at hy
      obtain ⟨k, hk, rfl⟩ := hy
      simp only [List.mem_filter]
      exact ⟨mem_up.mpr (sgk_in hx k), by simpa using len_un (hf _ (sgk_in hx k)) (len_on hx hl k)⟩)
    simpa using this
  have bnd : ∀ d, d * (decide (∃ x ∈ up n, f x = d)).toNat ≤ (up n).countP (fun x => f x == d) := by
    intro d
    by_cases h : ∃ x ∈ up n, f x = d
    · have := key d h
      simp only [h, decide_true, Bool.toNat_true]
      omega
    · simp only [h, decide_false, Bool.toNat_false]
      omega
  obtain ⟨m, hm', hm, m1, m2, m3, m4, m5, m6, m7, m8⟩ := lcm8 (decide (∃ x ∈ up n, f x = 1)) (decide (∃ x ∈ up n, f x = 2)) (decide (∃ x ∈ up n, f x = 3)) (decide (∃ x ∈ up n, f x = 4)) (decide (∃ x ∈ up n, f x = 5)) (decide (∃ x ∈ up n, f x = 6)) (decide (∃ x ∈ up n, f x = 7)) (decide (∃ x ∈ up n, f x = 8)) (by
    have b1 := bnd 1
    have b2 := bnd 2
    have b3 := bnd 3
    have b4 := bnd 4
    have b5 := bnd 5
    have b6 := bnd 6
    have b7 := bnd 7
    have b8 := bnd 8
    omega)
  refine ⟨m, hm, by omega, fun p hp => ?_⟩
  have hl := hf p hp
  have hd : f p ∣ m := by
    have h1 := h8 p (mem_up.mpr hp)
    have hx : ∃ x ∈ up n, f x = f p := ⟨p, mem_up.mpr hp, rfl⟩
    have : f p = 1 ∨ f p = 2 ∨ f p = 3 ∨ f p = 4 ∨ f p = 5 ∨ f p = 6 ∨ f p = 7 ∨ f p = 8 := by omega
    rcases this with e | e | e | e | e | e | e | e <;> rw [e] at hx ⊢
    · exact Nat.dvd_of_mod_eq_zero (m1 (decide_eq_true hx))
    · exact Nat.dvd_of_mod_eq_zero (m2 (decide_eq_true hx))
    · exact Nat.dvd_of_mod_eq_zero (m3 (decide_eq_true hx))
    · exact Nat.dvd_of_mod_eq_zero (m4 (decide_eq_true hx))
    · exact Nat.dvd_of_mod_eq_zero (m5 (decide_eq_true hx))
    · exact Nat.dvd_of_mod_eq_zero (m6 (decide_eq_true hx))
    · exact Nat.dvd_of_mod_eq_zero (m7 (decide_eq_true hx))
    · exact Nat.dvd_of_mod_eq_zero (m8 (decide_eq_true hx))
  obtain ⟨k, e⟩ := hd
  rw [e]
  exact sgk_mul hl.2.2.1 k
end VI

set_option Elab.async false
set_option linter.all false
set_option maxRecDepth 100000
set_option maxHeartbeats 4000000
/-! PQ: lines and runs, plainly -/
namespace VI
/-! ### paths -/
theorem pth_len {n p : Nat} {cs : List (List Bool)} : (pth n cs p).length = cs.length + 1 := by simp [pth, rowsOf_len]
theorem pth_last {n p : Nat} {cs : List (List Bool)} : (pth n cs p).getLast? = some (sg n cs p) := by
  simp [pth, List.getLast?_map, rowsOf_last]
  rfl
theorem pth_zero {n p : Nat} {cs : List (List Bool)} (hp : 1 ≤ p ∧ p ≤ n) : (pth n cs p).getD 0 0 = p := by
  have h := up_idx hp.1 hp.2
  cases cs with
  | nil => simpa [pth, rowsOf, pos] using h
  | cons s cs => simpa [pth, rowsOf, pos] using h
theorem pth_in {n p x : Nat} {cs : List (List Bool)} (hp : 1 ≤ p ∧ p ≤ n) (hx : x ∈ pth n cs p) : 1 ≤ x ∧ x ≤ n := by
  simp only [pth, List.mem_map] at hx
  obtain ⟨r, hr, rfl⟩ := hx
  have := Row.rows Row.up r hr
  exact this.pos (this.mem.mpr hp)
/-- the place of p's bell at row k -/
def pat (n : Nat) (cs : List (List Bool)) (p k : Nat) : Nat := (pth n cs (sgk n cs (k / cs.length) p)).getD (k % cs.length) 0
theorem pat_next {n p k : Nat} {cs : List (List Bool)} (hc : 0 < cs.length) : pat n cs p (k + cs.length) = pat n cs (sg n cs p) k := by
  unfold pat
  rw [Nat.add_mod_right, Nat.add_div_right _ hc, sgk_add]
  rfl
theorem pat_per {n p l k : Nat} {cs : List (List Bool)} (hc : 0 < cs.length) (h : sgk n cs l p = p) : pat n cs p (k + l * cs.length) = pat n cs p k := by
  unfold pat
  rw [Nat.add_mul_mod_self_right, Nat.add_mul_div_right _ _ hc, sgk_add, h]
def rep {α : Type} : Nat → List α → List α
  | 0, _ => []
  | k + 1, cs => cs ++ rep k cs
theorem rep_len {α : Type} {cs : List α} : ∀ {k : Nat}, (rep k cs).length = k * cs.length
  | 0 => by simp [rep]
  | k + 1 => by simp [rep, rep_len (cs := cs) (k := k), Nat.succ_mul]; omega
theorem rep_mem {α : Type} {cs : List α} {x : α} : ∀ {k : Nat}, x ∈ rep k cs → x ∈ cs
  | 0, h => by simp [rep] at h
  | k + 1, h => by
    simp [rep] at h
    rcases h with h | h
    · exact h
    · exact rep_mem h
theorem rows_cat : ∀ {cs ds : List (List Bool)} {a : List Nat}, rowsOf (cs ++ ds) a = (rowsOf cs a).dropLast ++ rowsOf ds (lastOf cs a)
  | [], ds, a => rfl
  | s :: cs, ds, a => by
    have := rows_cat (cs := cs) (ds := ds) (a := swp s a)
    have hne : rowsOf cs (swp s a) ≠ [] := by
      intro e
      have := rowsOf_len (cs := cs) (a := swp s a)
      rw [e] at this
      simp at this
    simp only [List.cons_append, rowsOf, lastOf, this, List.dropLast_cons_of_ne_nil hne]
/-- from any row -/
theorem row_from {n p : Nat} {r : List Nat} {cs : List (List Bool)} (h : Row n r) (hp : 1 ≤ p ∧ p ≤ n) : (rowsOf cs r).map (fun q => pos q p) = pth n cs (pos r p) := by
  conv => lhs; rw [← h.as, rowsOf_map, List.map_map]
  refine List.map_congr_left fun q hq => ?_
  exact h.from_ (Row.rows Row.up q hq) (h.mem.mpr hp)
theorem last_from {n p : Nat} {r : List Nat} {cs : List (List Bool)} (h : Row n r) (hp : 1 ≤ p ∧ p ≤ n) : pos (lastOf cs r) p = sg n cs (pos r p) := by
  conv => lhs; rw [← h.as, lastOf_map]
  exact h.from_ Row.hd (h.mem.mpr hp)
theorem rows_pat {n p : Nat} {cs : List (List Bool)} (hc : 0 < cs.length) (hp : 1 ≤ p ∧ p ≤ n) : ∀ (N : Nat) {r : List Nat}, Row n r → (rowsOf (rep N cs) r).map (fun q => pos q p) = (List.range (N * cs.length + 1)).map (pat n cs (pos r p))
  | 0, r, h => by
    have hb := h.pos (h.mem.mpr hp)
    simp [rep, rowsOf, pat, sgk]
    have := pth_zero (cs := cs) hb
    simpa using this.symm
  | N + 1, r, h => by
    have hb := h.pos (h.mem.mpr hp)
    have ih := rows_pat hc hp N (r := lastOf cs r) h.last
    rw [rep, rows_cat, List.map_append, ih, last_from h hp, List.map_dropLast, row_from h hp]
    have e : List.range ((N + 1) * cs.length + 1) = List.range cs.length ++ (List.range (N * cs.length + 1)).map (cs.length + ·) := by
      rw [show (N + 1) * cs.length + 1 = cs.length + (N * cs.length + 1) by rw [Nat.succ_mul]; omega, List.range_add]
    rw [e, List.map_append, List.map_map]
    congr 1
    · apply List.ext_getElem
      · simp [pth_len]
      · intro i h1 h2
        simp [pth_len] at h1
        simp [pat, Nat.div_eq_of_lt h1, Nat.mod_eq_of_lt h1, sgk]
        rw [List.getElem?_eq_getElem (by simp [pth_len]; omega)]
        rfl
    · refine List.map_congr_left fun k _ => ?_
      show pat n cs (sg n cs (pos r p)) k = pat n cs (pos r p) (cs.length + k)
      rw [Nat.add_comm, pat_next hc]
/-- one lead's places -/
def seg (n : Nat) (cs : List (List Bool)) (p : Nat) : List Nat := (pth n cs p).dropLast
def lin (n : Nat) (cs : List (List Bool)) (l p : Nat) : List Nat := (List.range l).flatMap fun k => seg n cs (sgk n cs k p)
theorem lin_succ {n l p : Nat} {cs : List (List Bool)} : lin n cs (l + 1) p = lin n cs l p ++ seg n cs (sgk n cs l p) := by
  simp [lin, List.range_succ]
theorem lin_pat {n p : Nat} {cs : List (List Bool)} (hc : 0 < cs.length) : ∀ {l : Nat}, lin n cs l p = (List.range (l * cs.length)).map (pat n cs p)
  | 0 => by simp [lin]
  | l + 1 => by
    rw [lin_succ, lin_pat hc, Nat.succ_mul, List.range_add, List.map_append, List.map_map]
    congr 1
    apply List.ext_getElem
    · simp [seg, pth_len]
    · intro i h1 h2
      simp [seg, pth_len] at h1
      have e1 : (l * cs.length + i) / cs.length = l := by
        rw [Nat.add_comm, Nat.add_mul_div_right _ _ hc, Nat.div_eq_of_lt h1, Nat.zero_add]
      have e2 : (l * cs.length + i) % cs.length = i := by
        rw [Nat.add_comm, Nat.add_mul_mod_self_right, Nat.mod_eq_of_lt h1]
      simp [seg, pat, e1, e2]
      rw [List.getElem?_eq_getElem (by simp [pth_len]; omega)]
      rfl
/-! ### runs -/
def rn (f : Nat → Nat) : Nat → Nat
  | 0 => 1
  | k + 1 => if f (k + 1) = f k then rn f k + 1 else 1
def mxr (f : Nat → Nat) (m : Nat) : Nat → Nat
  | 0 => m
  | k + 1 => max (mxr f m k) (rn f (k + 1))
theorem mxr_le {f : Nat → Nat} {m B : Nat} : ∀ {K : Nat}, mxr f m K ≤ B ↔ m ≤ B ∧ ∀ k, 1 ≤ k → k ≤ K → rn f k ≤ B
  | 0 => by
    simp only [mxr]
    exact ⟨fun h => ⟨h, fun k h1 h2 => by omega⟩, fun h => h.1⟩
  | K + 1 => by
    have ih := mxr_le (f := f) (m := m) (B := B) (K := K)
    simp only [mxr, Nat.max_le, ih]
    constructor
    · rintro ⟨⟨h1, h2⟩, h3⟩
      refine ⟨h1, fun k hk hk' => ?_⟩
      by_cases e : k = K + 1
      · exact e ▸ h3
      · exact h2 k hk (by omega)
    · rintro ⟨h1, h2⟩
      exact ⟨⟨h1, fun k hk hk' => h2 k hk (by omega)⟩, h2 _ (by omega) (by omega)⟩
theorem brk {f : Nat → Nat} : ∀ {j : Nat}, f j ≠ f 0 → ∃ b, 1 ≤ b ∧ b ≤ j ∧ f b ≠ f (b - 1)
  | 0, h => absurd rfl h
  | j + 1, h => by
    by_cases e : f (j + 1) = f j
    · obtain ⟨b, h1, h2, h3⟩ := brk (f := f) (j := j) (e ▸ h)
      exact ⟨b, h1, by omega, h3⟩
    · exact ⟨j + 1, by omega, by omega, by simpa using e⟩
theorem rn_per {f : Nat → Nat} {t j : Nat} (hf : ∀ k, f (k + t) = f k) (hj : j < t) (h : f j ≠ f 0) : ∀ k, t ≤ k → rn f (k + t) = rn f k := by
  obtain ⟨b, h1, h2, h3⟩ := brk h
  suffices H : ∀ i, rn f (b + i + t) = rn f (b + i) by
    intro k hk
    have := H (k - b)
    rwa [show b + (k - b) = k by omega] at this
  intro i
  induction i with
  | zero =>
    obtain ⟨c, rfl⟩ : ∃ c, b = c + 1 := ⟨b - 1, by omega⟩
    simp at h3
    show rn f (c + 1 + t) = rn f (c + 1)
    rw [show c + 1 + t = c + t + 1 by omega, rn, rn, if_neg h3, if_neg]
    rw [show c + t + 1 = (c + 1) + t by omega, hf, hf]
    exact h3
  | succ i ih =>
    rw [show b + (i + 1) + t = (b + i + t) + 1 by omega, show b + (i + 1) = (b + i) + 1 by omega, rn, rn, ih]
    rw [show b + i + t + 1 = (b + i + 1) + t by omega, hf, hf]
theorem mxr_per {f : Nat → Nat} {t j m N : Nat} (hf : ∀ k, f (k + t) = f k) (hj : j < t) (h : f j ≠ f 0) (hN : 2 ≤ N) : mxr f m (2 * t - 1) = mxr f m (N * t) := by
  have hNt : 2 * t ≤ N * t := Nat.mul_le_mul_right _ hN
  have H : ∀ B, mxr f m (2 * t - 1) ≤ B ↔ mxr f m (N * t) ≤ B := by
    intro B
    rw [mxr_le, mxr_le]
    constructor
    · rintro ⟨h1, h2⟩
      refine ⟨h1, fun k hk _ => ?_⟩
      induction k using Nat.strongRecOn with
      | ind k ih =>
        by_cases hk' : k ≤ 2 * t - 1
        · exact h2 k hk hk'
        · have := rn_per hf hj h (k - t) (by omega)
          rw [show k - t + t = k by omega] at this
          rw [this]
          exact ih (k - t) (by omega) (by omega) (by omega)
    · rintro ⟨h1, h2⟩
      exact ⟨h1, fun k hk hk' => h2 k hk (by omega)⟩
  exact Nat.le_antisymm ((H _).mpr (Nat.le_refl _)) ((H _).mp (Nat.le_refl _))
/-! ### sets of numbers -/
theorem step_mem {s : List Int} {k x : Int} : x ∈ PyProof.Rows.step_dedup s k ↔ x ∈ s ∨ x = k := by
  unfold PyProof.Rows.step_dedup
  split
  · rename_i h
    simp at h
    constructor
    · exact .inl
    · rintro (h1 | rfl)
      · exact h1
      · exact h
  · simp
theorem step_nodup {s : List Int} {k : Int} (h : s.Nodup) : (PyProof.Rows.step_dedup s k).Nodup := by
  unfold PyProof.Rows.step_dedup
  split
  · exact h
  · rename_i hk
    simp at hk
    rw [List.nodup_append]
    refine ⟨h, by simp, ?_⟩
    intro a ha b hb
    simp at hb
    subst hb
    intro e
    subst e
    exact hk ha
theorem fold_dedup : ∀ {ns s : List Int}, s.Nodup → (ns.foldl PyProof.Rows.step_dedup s).Nodup ∧ ∀ x, x ∈ ns.foldl PyProof.Rows.step_dedup s ↔ x ∈ s ∨ x ∈ ns
  | [], s, h => ⟨h, fun x => by simp⟩
  | k :: ns, s, h => by
    obtain ⟨h1, h2⟩ := fold_dedup (ns := ns) (step_nodup (k := k) h)
    refine ⟨h1, fun x => ?_⟩
    rw [List.foldl_cons, h2, step_mem, List.mem_cons, or_assoc]
theorem dedup_nodup {ns : List Int} : (dedupI ns).Nodup := (fold_dedup (s := []) (by simp)).1
theorem dedup_mem {ns : List Int} {x : Int} : x ∈ dedupI ns ↔ x ∈ ns := by
  have := (fold_dedup (ns := ns) (s := []) (by simp)).2 x
  simpa [dedupI] using this
theorem dedup_one {ns : List Int} {a : Int} (ha : a ∈ ns) : (dedupI ns).length = 1 ↔ ∀ x ∈ ns, x = a := by
  constructor
  · intro h x hx
    obtain ⟨b, hb⟩ := List.length_eq_one_iff.mp h
    have h1 := dedup_mem.mpr ha
    have h2 := dedup_mem.mpr hx
    rw [hb] at h1 h2
    simp at h1 h2
    rw [h1, h2]
  · intro h
    have nd := dedup_nodup (ns := ns)
    have h1 := dedup_mem.mpr ha
    have hx : ∀ x ∈ dedupI ns, x = a := fun x hx => h x (dedup_mem.mp hx)
    match hd : dedupI ns, nd, h1, hx with
    | [], _, h1, _ => simp at h1
    | [b], _, _, _ => rfl
    | b :: c :: r, nd, _, hx =>
      have e1 := hx b (by simp)
      have e2 := hx c (by simp)
      simp [e1, e2] at nd
theorem asInts_mapD : ∀ {ns : List Int}, asInts (ns.map D.int) = some ns
  | [] => rfl
  | n :: ns => by
    have := asInts_mapD (ns := ns)
    simp only [List.map_cons, asInts, this]
    rfl
theorem asInts_nums {r : List Nat} : asInts (nums r) = some (r.map fun n : Nat => (n : Int)) := by
  rw [← asInts_mapD]
  simp [nums, Function.comp_def]
theorem lenSet_nums {r : List Nat} {ρ : En} (h : r.length + 1 < PySem.scanBound) : xLenSet (some (.lst (nums r), ρ)) = some (.lf (.int (dedupI (r.map fun n : Nat => (n : Int))).length), ρ) := by
  unfold xLenSet
  simp only [Option.bind_some, asInts_nums]
  rw [if_pos (by simpa using h)]
/-- a function of numbers never leaves its first value -/
def Const (f : Nat → Nat) (t : Nat) : Prop := ∀ k, k < t → f k = f 0
theorem one_const {f : Nat → Nat} {t : Nat} (ht : 0 < t) : (dedupI (((List.range t).map f).map fun n : Nat => (n : Int))).length = 1 ↔ Const f t := by
  rw [dedup_one (a := (f 0 : Int)) (by simp; exact ⟨0, ht, rfl⟩)]
  constructor
  · intro h k hk
    have := h (f k) (by simp; exact ⟨k, hk, rfl⟩)
    omega
  · intro h x hx
    simp at hx
    obtain ⟨k, hk, rfl⟩ := hx
    rw [h k hk]
/-- over many bells -/
def stays (st : Nat → Nat → Option Nat) : List Nat → Nat → Option Nat
  | [], m => some m
  | p :: ps, m => (st p m).bind fun m' => stays st ps m'
open Classical in
noncomputable def stp (f : Nat → Nat) (t K m : Nat) : Option Nat := if Const f t then none else some (mxr f m K)
/-! ### many leads -/
theorem rep_snoc {α : Type} {cs : List α} : ∀ {k : Nat}, rep (k + 1) cs = rep k cs ++ cs
  | 0 => by simp [rep]
  | k + 1 => by
    have := rep_snoc (cs := cs) (k := k)
    show cs ++ rep (k + 1) cs = (cs ++ rep k cs) ++ cs
    rw [this, List.append_assoc]
theorem rep_pos {n p : Nat} {cs : List (List Bool)} (hp : 1 ≤ p ∧ p ≤ n) : ∀ k, pos (lastOf (rep k cs) (up n)) p = sgk n cs k p
  | 0 => up_idx hp.1 hp.2
  | k + 1 => by
    rw [rep_snoc, lastOf_app, last_from (Row.up.last) hp, rep_pos hp k]
    rfl
theorem row_up {n : Nat} {r : List Nat} (h : Row n r) (hp : ∀ p, 1 ≤ p ∧ p ≤ n → pos r p = p) : r = up n := by
  apply List.ext_getElem
  · simp [h.len]
  · intro i h1 h2
    have hb := h.mem.mp (List.getElem_mem h1)
    have h3 := hp _ hb
    have h4 := h.nodup.idxOf_getElem i h1
    unfold pos at h3
    simp [up]
    omega
theorem rep_up {n m : Nat} {cs : List (List Bool)} : lastOf (rep m cs) (up n) = up n ↔ ∀ p, 1 ≤ p ∧ p ≤ n → sgk n cs m p = p := by
  constructor
  · intro h p hp
    rw [← rep_pos hp, h]
    exact up_idx hp.1 hp.2
  · intro h
    exact row_up Row.up.last fun p hp => by rw [rep_pos hp, h p hp]
theorem mul_last {n : Nat} {r : List Nat} {cs : List (List Bool)} (h : Row n r) : mulR r (hd n cs) = lastOf cs r := by
  conv => rhs; rw [← h.as, lastOf_map]
  rfl
theorem rep_rep {α : Type} {cs : List α} {a : Nat} : ∀ {b : Nat}, rep b (rep a cs) = rep (b * a) cs
  | 0 => by simp [rep]
  | b + 1 => by
    have h : ∀ x y, rep x cs ++ rep y cs = rep (x + y) cs := by
      intro x y
      induction x with
      | zero => simp [rep]
      | succ x ih => rw [show x + 1 + y = (x + y) + 1 by omega, rep, rep, List.append_assoc, ih]
    rw [rep, rep_rep, h]
    congr 1
    rw [Nat.succ_mul, Nat.add_comm]
theorem eqD_row {r s : List Nat} : eqD (rowD r) (rowD s) = some (.lf (.bl (r == s))) := by
  rw [eqD_ev (by simp only [rowD, sh, sh_nums]) (by simp only [rowD, sh, sh_nums])]
  simp only [rowD, eqv, eqvs_nums]
theorem eqD_lst {r s : List Nat} : eqD (.lst (nums r)) (.lst (nums s)) = some (.lf (.bl (r == s))) := by
  rw [eqD_ev (by simp only [sh, sh_nums]) (by simp only [sh, sh_nums])]
  simp only [eqv, eqvs_nums]
theorem neD_lst {r s : List Nat} : neD (.lst (nums r)) (.lst (nums s)) = some (.lf (.bl (!(r == s)))) := by
  rw [neD_ev (by simp only [sh, sh_nums]) (by simp only [sh, sh_nums])]
  simp only [eqv, eqvs_nums]
theorem repL_rep {α : Type} (f : α → D) {cs : List α} {m : Nat} : repL (cs.map f) (m : Int) = (rep m cs).map f := by
  unfold repL
  simp
  induction m with
  | zero => simp [rep]
  | succ m ih => simp [List.replicate_succ, rep, ih]
/-! ### places counted from nought -/
theorem rn_pred {f : Nat → Nat} (h : ∀ k, 1 ≤ f k) : ∀ k, rn (fun k => f k - 1) k = rn f k
  | 0 => rfl
  | k + 1 => by
    have ih := rn_pred h k
    have h1 := h k
    have h2 := h (k + 1)
    simp only [rn, ih]
    by_cases e : f (k + 1) = f k
    · simp [e]
    · rw [if_neg e, if_neg (by omega)]
theorem mxr_pred {f : Nat → Nat} {m : Nat} (h : ∀ k, 1 ≤ f k) : ∀ K, mxr (fun k => f k - 1) m K = mxr f m K
  | 0 => rfl
  | K + 1 => by simp only [mxr, mxr_pred h K, rn_pred h]
theorem const_pred {f : Nat → Nat} {t : Nat} (h : ∀ k, 1 ≤ f k) : Const (fun k => f k - 1) t ↔ Const f t := by
  constructor
  · intro c k hk
    have h0 := h 0
    have h1 := h k
    have := c k hk
    simp only at this
    omega
  · intro c k hk
    simp only [c k hk]
theorem const_per {f : Nat → Nat} {t K : Nat} (ht : 0 < t) (hf : ∀ k, f (k + t) = f k) (hK : t ≤ K) : Const f K ↔ Const f t := by
  have hm : ∀ q r, f (r + q * t) = f r := by
    intro q r
    induction q with
    | zero => simp
    | succ q ih => rw [Nat.succ_mul, ← Nat.add_assoc, hf, ih]
  constructor
  · exact fun c k hk => c k (by omega)
  · intro c k hk
    have := hm (k / t) (k % t)
    rw [Nat.mul_comm, Nat.mod_add_div] at this
    rw [this]
    exact c _ (Nat.mod_lt _ ht)
theorem pat_pos {n p k : Nat} {cs : List (List Bool)} (hc : 0 < cs.length) (hp : 1 ≤ p ∧ p ≤ n) : 1 ≤ pat n cs p k := by
  have h1 : k % cs.length < (pth n cs (sgk n cs (k / cs.length) p)).length := by rw [pth_len]; have := Nat.mod_lt k hc; omega
  unfold pat
  rw [List.getD_eq_getElem?_getD, List.getElem?_eq_getElem h1]
  exact (pth_in (sgk_in hp _) (List.getElem_mem h1)).1
/-- the law's bell by bell is the program's place by place -/
theorem stp_same {n p l m many : Nat} {cs : List (List Bool)} (hc : 0 < cs.length) (hp : 1 ≤ p ∧ p ≤ n) (L : Len n cs p l) (hm : 1 ≤ many) (h : sgk n cs many p = p) :
    stp (fun k => pat n cs p k - 1) (2 * many * cs.length + 1) (2 * many * cs.length) m = stp (pat n cs p) (l * cs.length) (2 * (l * cs.length) - 1) m := by
  have hf : ∀ k, pat n cs p (k + l * cs.length) = pat n cs p k := fun k => pat_per hc L.2.2.1
  have ht : 0 < l * cs.length := Nat.mul_pos L.1 hc
  obtain ⟨q, hq⟩ := len_dvd L h
  have hq1 : 1 ≤ q := by
    rcases Nat.eq_zero_or_pos q with e | e
    · subst e; omega
    · exact e
  have hN : 2 * many * cs.length = 2 * q * (l * cs.length) := by
    rw [hq]
    rw [show 2 * (l * q) = (2 * q) * l by rw [Nat.mul_comm l q, Nat.mul_assoc], Nat.mul_assoc]
  have hle : l * cs.length ≤ 2 * q * (l * cs.length) := Nat.le_mul_of_pos_left _ (by omega)
  have h1 := fun k => pat_pos (k := k) hc hp
  unfold stp
  have c1 := const_pred (t := 2 * many * cs.length + 1) h1
  have c2 := const_per (K := 2 * many * cs.length + 1) ht hf (by rw [hN]; omega)
  by_cases hC : Const (pat n cs p) (l * cs.length)
  · rw [if_pos hC, if_pos (c1.mpr (c2.mpr hC))]
  · rw [if_neg hC, if_neg fun h => hC (c2.mp (c1.mp h)), mxr_pred h1, hN]
    have : ∃ j, j < l * cs.length ∧ pat n cs p j ≠ pat n cs p 0 := by
      false_or_by_contra
      rename_i hn
      exact hC fun k hk => by
        false_or_by_contra
        rename_i hne
        exact hn ⟨k, hk, hne⟩
    obtain ⟨j, hj, hne⟩ := this
    rw [mxr_per (N := 2 * q) hf hj hne (by omega)]
theorem mul_chs {cs : List (List Bool)} {m : Nat} (h : cs.length * m ≤ 100000) (hm : m ≤ 100000) : mulD (chsD cs) (.int m) = some (.lf (chsD (rep m cs))) := by
  have e : mulD (.tup (cs.map chD)) (.int m) = some (.lf (.tup (repL (cs.map chD) m))) := mulD_tup ⟨by omega, by omega, le_size (by rw [List.length_map, Int.toNat_natCast]; omega)⟩
  rw [repL_rep] at e
  exact e
/-! ### the greatest -/
theorem fold_max : ∀ {ns : List Int} {n : Int}, (ns.foldl (fun a b => if b > a then b else a) n = n ∨ ns.foldl (fun a b => if b > a then b else a) n ∈ ns) ∧ n ≤ ns.foldl (fun a b => if b > a then b else a) n ∧ ∀ x ∈ ns, x ≤ ns.foldl (fun a b => if b > a then b else a) n
  | [], n => by simp
  | k :: ns, n => by
    obtain ⟨h1, h2, h3⟩ := fold_max (ns := ns) (n := if k > n then k else n)
    rw [List.foldl_cons]
    generalize ns.foldl (fun a b => if b > a then b else a) (if k > n then k else n) = z at h1 h2 h3 ⊢
    refine ⟨?_, ?_, ?_⟩
    · rcases h1 with h | h
      · split at h
        · right; rw [h]; simp
        · left; exact h
      · right; simp [h]
    · split at h2 <;> omega
    · intro x hx
      simp only [List.mem_cons] at hx
      rcases hx with rfl | hx
      · split at h2 <;> omega
      · exact h3 x hx
theorem greatest_ok {ns : List Int} (h : ns ≠ []) : ∃ z, greatest ns = some z ∧ z ∈ ns ∧ ∀ x ∈ ns, x ≤ z := by
  match ns, h with
  | n :: ns, _ =>
    obtain ⟨h1, h2, h3⟩ := fold_max (ns := ns) (n := n)
    refine ⟨_, rfl, ?_, ?_⟩
    · rcases h1 with h | h
      · rw [h]; simp
      · simp [h]
    · intro x hx
      simp only [List.mem_cons] at hx
      rcases hx with rfl | hx
      · exact h2
      · exact h3 x hx
theorem max_nums {r : List Nat} (h : r ≠ []) : ∃ z : Nat, maxL [.lst (nums r)] = some (.lf (.int z)) ∧ z ∈ r ∧ ∀ x ∈ r, x ≤ z := by
  obtain ⟨z, e, hz, hx⟩ := greatest_ok (ns := r.map fun n : Nat => (n : Int)) (by simpa using h)
  simp only [List.mem_map] at hz
  obtain ⟨y, hy, rfl⟩ := hz
  refine ⟨y, ?_, hy, fun x hx' => ?_⟩
  · show (asInts (nums r)).bind (fun ns => (greatest ns).bind fun m => some (T.lf (.int m))) = _
    rw [asInts_nums]
    show (greatest _).bind _ = _
    rw [e]
    rfl
  · have := hx x (List.mem_map.mpr ⟨x, hx', rfl⟩)
    omega
end VI

set_option Elab.async false
set_option linter.all false
set_option maxRecDepth 100000
set_option maxHeartbeats 4000000
/-! PT: all changes of a stage, plainly and run -/
namespace VI
open PySem L2
open PyProof.Rows hiding St
/-! ### sorting rows of numbers -/
theorem alike_nums : ∀ {r s : List Nat}, W.alikeAll (pys (nums r)) (pys (nums s)) = true
  | [], s => by simp [pys, W.alikeAll]
  | a :: r, [] => by simp [nums, pys, W.alikeAll]
  | a :: r, b :: s => by
    have ih := alike_nums (r := r) (s := s)
    simp only [nums, List.map_cons, pys, py, W.alikeAll, W.alike, Bool.true_and] at ih ⊢
    exact ih
theorem canSort_rows {rs : List (List Nat)} : canSort (rs.map rowD) = true := by
  unfold canSort
  simp only [Bool.and_eq_true, List.all_eq_true, List.mem_map]
  refine ⟨⟨?_, ?_⟩, ?_⟩
  · rintro _ ⟨r, _, rfl⟩
    simp only [rowD, sh, sh_nums]
  · rintro _ ⟨r, _, rfl⟩ _ ⟨s, _, rfl⟩
    simp only [rowD, py, W.alike, alike_nums]
  · rintro _ ⟨r, _, rfl⟩
    rfl
theorem sortL_perm {ds : List D} : (sortL ds).Perm ds := List.mergeSort_perm _ _
def unrow : D → List Nat
  | .tup ds => ds.map fun d => match d with
    | .int i => i.toNat
    | _ => 0
  | _ => []
theorem unrow_row {r : List Nat} : unrow (rowD r) = r := by
  simp [unrow, rowD, nums, Function.comp_def]
/-- the sorted rows are rows -/
theorem sort_rows {rs : List (List Nat)} : ∃ qs : List (List Nat), qs.Perm rs ∧ sortL (rs.map rowD) = qs.map rowD := by
  have h := sortL_perm (ds := rs.map rowD)
  refine ⟨(sortL (rs.map rowD)).map unrow, ?_, ?_⟩
  · have := h.map unrow
    rw [List.map_map] at this
    have e : unrow ∘ rowD = id := by
      funext r
      exact unrow_row
    rwa [e, List.map_id] at this
  · rw [List.map_map]
    have : ∀ d ∈ sortL (rs.map rowD), (rowD ∘ unrow) d = d := by
      intro d hd
      have := h.mem_iff.mp hd
      simp only [List.mem_map] at this
      obtain ⟨r, _, rfl⟩ := this
      show rowD (unrow (rowD r)) = rowD r
      rw [unrow_row]
    conv => lhs; rw [← List.map_id (sortL (rs.map rowD))]
    exact (List.map_congr_left this).symm
/-! ### all changes -/
def more1 (n : Nat) (s : List Bool) : List (List Bool) := if wid s = n then [] else (s ++ [true]) :: if wid s + 2 ≤ n then [s ++ [false]] else []
def fnd (n : Nat) : Nat → List (List Bool)
  | 0 => [[]]
  | k + 1 => (fnd n k).flatMap (more1 n)
def don (n : Nat) : Nat → List (List Bool)
  | 0 => []
  | k + 1 => don n k ++ (fnd n k).filter fun s => wid s == n
theorem stepC_len {n : Nat} : ∀ {l : List (List Bool)}, (l.filter fun s => wid s == n).length + (l.flatMap (more1 n)).length ≤ 2 * l.length
  | [] => by simp
  | s :: l => by
    have ih := stepC_len (n := n) (l := l)
    by_cases h : wid s = n
    · simp [h, more1] at *
      omega
    · by_cases h2 : wid s + 2 ≤ n
      · simp [h, h2, more1] at *
        omega
      · simp [h, h2, more1] at *
        omega
theorem size_fd {n : Nat} : ∀ k, (don n k).length + (fnd n k).length ≤ 2 ^ k
  | 0 => by simp [don, fnd]
  | k + 1 => by
    have ih := size_fd (n := n) k
    have h1 := stepC_len (n := n) (l := fnd n k)
    simp only [don, fnd, List.length_append]
    rw [Nat.pow_succ]
    omega
theorem don_wid {n : Nat} : ∀ {k : Nat} {s : List Bool}, s ∈ don n k → wid s = n
  | 0, s, h => by simp [don] at h
  | k + 1, s, h => by
    simp only [don, List.mem_append, List.mem_filter] at h
    rcases h with h | h
    · exact don_wid h
    · simpa using h.2
def mAllCh : DenS := (sSeq (sSet 1 (dLst (dConsA (dTup (dConsA (dTup dNilA) (dConsA (dC (.int 0)) dNilA))) dNilA))) (sSeq (sSet 2 (dLst dNilA)) (sSeq (sFor (dIter (dCB (rangeD) (dConsL (dO (dBin addD (dVar 0) (dC (.int 1)))) dNilL))) (gNm 3) (sSeq (sSet 4 (dLst dNilA)) (sSeq (sFor (dIter (dVar 1)) (gTp 2 (gCn (gNm 5) (gCn (gNm 6) gNl))) (sSeq (dIf (dBl (dBin eqD (dVar 6) (dVar 0))) (sSeq (sAppend 2 (dVar 5)) sNil) (sSeq (sAppend 4 (dTup (dConsA (dBin addD (dVar 5) (dTup (dConsA (dBin addD (dVar 6) (dC (.int 1))) dNilA))) (dConsA (dBin addD (dVar 6) (dC (.int 1))) dNilA)))) (sSeq (dIf (dBl (dBin leD (dBin addD (dVar 6) (dC (.int 2))) (dVar 0))) (sSeq (sAppend 4 (dTup (dConsA (dVar 5) (dConsA (dBin addD (dVar 6) (dC (.int 2))) dNilA)))) sNil) sNil) sNil))) sNil)) (sSeq (sSet 1 (dVar 4)) sNil)))) (sSeq (sRet (dCB (on1 sortedD) (dConsL (dSl 2) dNilL))) sNil))))
def fAllCh : Fn := fnDen (fun i => decide (i ∈ ([1, 2, 3, 4, 5, 6] : List Nat))) 1 7 mAllCh
def fndD (s : List Bool) : D := .tup [chD s, .int (wid s)]
def body3 : DenS := (sSeq (dIf (dBl (dBin eqD (dVar 6) (dVar 0))) (sSeq (sAppend 2 (dVar 5)) sNil) (sSeq (sAppend 4 (dTup (dConsA (dBin addD (dVar 5) (dTup (dConsA (dBin addD (dVar 6) (dC (.int 1))) dNilA))) (dConsA (dBin addD (dVar 6) (dC (.int 1))) dNilA)))) (sSeq (dIf (dBl (dBin leD (dBin addD (dVar 6) (dC (.int 2))) (dVar 0))) (sSeq (sAppend 4 (dTup (dConsA (dVar 5) (dConsA (dBin addD (dVar 6) (dC (.int 2))) dNilA)))) sNil) sNil) sNil))) sNil)
theorem plc_true {s : List Bool} : nums (plc 0 s) ++ [D.int ((wid s : Int) + 1)] = nums (plc 0 (s ++ [true])) := by
  rw [plc_app, nums_app]
  simp [plc, nums]
theorem plc_len : ∀ {k : Nat} {s : List Bool}, (plc k s).length ≤ wid s
  | k, [] => by simp [plc]
  | k, true :: s => by have := plc_len (k := k + 1) (s := s); simp [plc, wid]; omega
  | k, false :: s => by have := plc_len (k := k + 2) (s := s); simp [plc, wid]; omega
theorem plc_false {s : List Bool} : plc 0 (s ++ [false]) = plc 0 s := by
  rw [plc_app]
  simp [plc]
theorem inner3 {n : Nat} {a b : Option T} : ∀ (l : List (List Bool)) (done more : List (List Bool)) (o5 o6 : Option T), done.length + more.length + 2 * l.length ≤ 100000 → (∀ s ∈ l, wid s ≤ 1000) →
    ∃ p5 p6, fRun (gTp 2 (gCn (gNm 5) (gCn (gNm 6) gNl))) body3 (l.map fndD) [some (.lf (.int n)), a, some (.lst (done.map chD)), b, some (.lst (more.map fndD)), o5, o6] = some (.nx, [some (.lf (.int n)), a, some (.lst ((done ++ l.filter fun s => wid s == n).map chD)), b, some (.lst ((more ++ l.flatMap (more1 n)).map fndD)), p5, p6])
  | [], done, more, o5, o6, _, _ => ⟨o5, o6, by simp [fRun_nil]⟩
  | s :: l, done, more, o5, o6, h, hw => by
    simp only [List.length_cons] at h
    have hs := hw s (by simp)
    rw [List.map_cons, fRun_cons]
    by_cases h1 : wid s = n
    · have e1 : ((wid s : Int) == (n : Int)) = true := by simp [h1]
      obtain ⟨p5, p6, ih⟩ := inner3 (n := n) (a := a) (b := b) l (done ++ [s]) more (some (.lf (chD s))) (some (.lf (.int (wid s)))) (by simp; omega) fun t ht => hw t (by simp [ht])
      refine ⟨p5, p6, ?_⟩
      simp [body3, fndD, e1]
      rw [xApp2_ev (lt_size (by simp; omega))]
      simp
      simp [body3] at ih
      rw [ih]
      simp [h1, more1]
    · have e1 : ((wid s : Int) == (n : Int)) = false := by simp; omega
      have e2 : addD (chD s) (.tup [.int ((wid s : Int) + 1)]) = some (.lf (chD (s ++ [true]))) := by
        have hl := plc_len (k := 0) (s := s)
        show addD (.tup (nums (plc 0 s))) _ = some (.lf (.tup (nums (plc 0 (s ++ [true])))))
        rw [addD_tup (le_size (by simp; omega)), plc_true]
      by_cases h2 : wid s + 2 ≤ n
      · have e3 : ((wid s : Int) + 2 ≤ n) := by omega
        obtain ⟨p5, p6, ih⟩ := inner3 (n := n) (a := a) (b := b) l done (more ++ [s ++ [true], s ++ [false]]) (some (.lf (chD s))) (some (.lf (.int (wid s)))) (by simp; omega) fun t ht => hw t (by simp [ht])
        refine ⟨p5, p6, ?_⟩
        simp [body3, fndD, e1, e2]
        rw [xApp2_ev (lt_size (by simp; omega))]
        simp [e3]
        rw [xApp2_ev (lt_size (by simp; omega))]
        simp
        simp [body3, fndD, wid_app, wid, chD, plc_false] at ih
        simp [chD]
        rw [ih]
        simp [h1, h2, more1, fndD, chD, wid_app, wid, plc_false]
      · have e3 : ¬ ((wid s : Int) + 2 ≤ n) := by omega
        obtain ⟨p5, p6, ih⟩ := inner3 (n := n) (a := a) (b := b) l done (more ++ [s ++ [true]]) (some (.lf (chD s))) (some (.lf (.int (wid s)))) (by simp; omega) fun t ht => hw t (by simp [ht])
        refine ⟨p5, p6, ?_⟩
        simp [body3, fndD, e1, e2]
        rw [xApp2_ev (lt_size (by simp; omega))]
        simp [e3]
        simp [body3, fndD, wid_app, wid, chD] at ih
        simp [chD]
        rw [ih]
        simp [h1, h2, more1, fndD, chD, wid_app, wid, plc_false]
theorem fnd_wid {n : Nat} : ∀ {k : Nat} {s : List Bool}, s ∈ fnd n k → wid s ≤ n
  | 0, s, h => by simp [fnd] at h; subst h; simp [wid]
  | k + 1, s, h => by
    simp only [fnd, List.mem_flatMap] at h
    obtain ⟨t, ht, h⟩ := h
    have ih := fnd_wid ht
    unfold more1 at h
    split at h
    · simp at h
    · rename_i hne
      split at h
      · simp at h
        rcases h with rfl | rfl
        · rw [wid_app]
          simp [wid]
          omega
        · rw [wid_app]
          simp [wid]
          omega
      · simp at h
        subst h
        rw [wid_app]
        simp [wid]
        omega
theorem chD_row {s : List Bool} : chD s = rowD (plc 0 s) := rfl
theorem sorted_chs {cs : List (List Bool)} : sortedD (.lst (cs.map chD)) = some (.lst (sortL (cs.map chD))) := by
  have e : cs.map chD = (cs.map (plc 0)).map rowD := by simp [Function.comp_def, chD_row]
  show (if canSort (cs.map chD) = true then some (T.lst (sortL (cs.map chD))) else none) = _
  rw [if_pos (by rw [e]; exact canSort_rows)]
theorem allCh_ok {n : Nat} (hn : n ≤ 12) : fAllCh [.lf (.int n)] = some (.lst (sortL ((don n (n + 1)).map chD)), [.lf (.int n)]) := by
  refine (fn_ev rfl fun R hR => ?_).eq
  have hr : rangeD [.int (n + 1)] = some (.lf (.rng 0 (n + 1) 1 (n + 1))) := by
    have := rangeD_one (b := n + 1) (by omega) (by omega)
    simpa using this
  simp [mAllCh, hr]
  generalize hF : fRun _ _ _ _ = F
  obtain ⟨ρ', ⟨o3, o4, o5, o6, rfl⟩, rfl⟩ := fRun_inv hF (fun i ρ => ∃ o3 o4 o5 o6 : Option T, ρ = [some (.lf (.int n)), some (if i = 0 then .lst ((fnd n i).map fndD) else .lf (.lst ((fnd n i).map fndD))), some (.lst ((don n i).map chD)), o3, o4, o5, o6])
    ⟨none, none, none, none, by simp [fnd, don, fndD, chD, plc, wid]⟩ (by
      rintro i hi ρ es R hR ⟨o3, o4, o5, o6, rfl⟩
      have hi' : i < n + 1 := by simpa using hi
      have hs := size_fd (n := n) i
      have hp : 2 ^ i ≤ 2 ^ 12 := Nat.pow_le_pow_right (by decide) (by omega)
      obtain ⟨p5, p6, e⟩ := inner3 (n := n) (a := some (.lf (.lst ((fnd n i).map fndD)))) (b := some (.lf (.int i))) (fnd n i) (don n i) [] o5 o6 (by simp; omega) fun t ht => by
        have := fnd_wid ht
        omega
      have h5 : (rngI 0 1 (n + 1))[i]'(by simpa using hi) = (i : Int) := by simp [rngI]
      unfold body3 at e
      by_cases h0 : i = 0
      · subst h0
        simp at e
        simp [h5, e]
        exact .of (hR _ ⟨_, _, _, _, by simp [fnd, don]; exact ⟨rfl, rfl, rfl, rfl⟩⟩)
      · simp at e
        simp [h5, h0, e]
        exact .of (hR _ ⟨_, _, _, _, by simp [fnd, don]; exact ⟨rfl, rfl, rfl, rfl⟩⟩))
  simp [sorted_chs]
  refine .of (hR _ ⟨_, _, rfl, rfl, ?_⟩)
  simp
theorem unmap {α β : Type} {f : α → β} {P : α → Prop} : ∀ {l : List β}, (∀ d ∈ l, ∃ s, P s ∧ d = f s) → ∃ ss : List α, l = ss.map f ∧ ∀ s ∈ ss, P s
  | [], _ => ⟨[], rfl, by simp⟩
  | d :: l, h => by
    obtain ⟨s, hs, rfl⟩ := h d (by simp)
    obtain ⟨ss, rfl, hss⟩ := unmap (f := f) (P := P) (l := l) fun e he => h e (by simp [he])
    exact ⟨s :: ss, rfl, by simpa using ⟨hs, hss⟩⟩
theorem nums_inj {r s : List Nat} (h : nums r = nums s) : r = s := by
  have := congrArg (fun l => unrow (.tup l)) h
  simpa [unrow, nums, Function.comp_def] using this
/-- the sorted changes -/
theorem sort_chs {cs : List (List Bool)} : ∃ ss : List (List Bool), sortL (cs.map chD) = ss.map chD ∧ (∀ s ∈ ss, s ∈ cs) ∧ ss.length = cs.length ∧ ∀ s ∈ cs, ∃ t ∈ ss, plc 0 t = plc 0 s := by
  have h := sortL_perm (ds := cs.map chD)
  obtain ⟨ss, e, hs⟩ := unmap (f := chD) (P := fun s => s ∈ cs) (l := sortL (cs.map chD)) fun d hd => by
    have := h.mem_iff.mp hd
    simp only [List.mem_map] at this
    obtain ⟨s, hs, rfl⟩ := this
    exact ⟨s, hs, rfl⟩
  refine ⟨ss, e, hs, ?_, fun s hs' => ?_⟩
  · have := h.length_eq
    rw [e] at this
    simpa using this
  · have := h.mem_iff.mpr (List.mem_map.mpr ⟨s, hs', rfl⟩)
    rw [e] at this
    simp only [List.mem_map] at this
    obtain ⟨t, ht, e2⟩ := this
    refine ⟨t, ht, nums_inj ?_⟩
    simp only [chD] at e2
    exact D.tup.inj e2
theorem few_places {n : Nat} (h3 : 3 ≤ n) (h8 : n ≤ 8) : ∃ s ∈ don n (n + 1), (plc 0 s).length < n := by
  have : n = 3 ∨ n = 4 ∨ n = 5 ∨ n = 6 ∨ n = 7 ∨ n = 8 := by omega
  have key : ∀ n, ((don n (n + 1)).any fun s => decide ((plc 0 s).length < n)) = true → ∃ s ∈ don n (n + 1), (plc 0 s).length < n := by
    intro n h
    simpa using h
  rcases this with rfl | rfl | rfl | rfl | rfl | rfl <;> exact key _ (by decide +kernel)
end VI

set_option Elab.async false
set_option linter.all false
set_option maxRecDepth 100000
set_option maxHeartbeats 0
namespace Lk05
open PySem PySem.Spec L2 VI
open PyProof.Rows hiding St
def top (i : Nat) : Stmt := PySem.Challenge.pw_truepeals_k05_what_a_bell_does_in_a_meth.main.body.getD i (.Pass ⟨0, 0, 0, 0⟩)
/-! ### _law_draws -/
noncomputable def ce__law_draws : CE := { N := ["cell", "modulus", "count", "number", "row", "k", "mixed"], sc := defScope (top 22), own := fun x => (defScope (top 22)).names.lookup x == some .cell, A := fun i => decide (i ∈ ([3, 4, 5, 6] : List Nat)), np := 3, fns := [], cons := [], free := ["range", "int"] }
noncomputable def m__law_draws : DenS := (sSeq (sSet 3 (dVar 0)) (sSeq (dIf (dBl (dBin ltD (dVar 3) (dC (.int 0)))) (sSeq (sSet 3 (dBin subD (dBin subD (dC (.int 0)) (dC (.int 1))) (dVar 3))) sNil) sNil) (sSeq (sSet 4 (dLst dNilA)) (sSeq (dIf (dBl (dBin geD (dVar 3) (dBin powD (dC (.int 10)) (dC (.int 18))))) (sSeq (sFor (dIter (dCB (rangeD) (dConsL (dSl 2) dNilL))) (gNm 5) (sSeq (sAppend 4 (dBin modD (dCB (on1 intOfD) (dConsL (dSl 3) dNilL)) (dVar 1))) (sSeq (sSet 3 (dBin fdivD (dVar 3) (dVar 1))) sNil))) (sSeq (sRetV 4) sNil)) sNil) (sSeq (sFor (dIter (dCB (rangeD) (dConsL (dSl 2) dNilL))) (gNm 5) (sSeq (sSet 6 (dBin modD (dCB (on1 intOfD) (dConsL (dO (dBin mulD (dBin addD (dBin addD (dVar 3) (dBin mulD (dC (.int 7)) (dVar 5))) (dC (.int 1))) (dC (.int 48271)))) dNilL)) (dC (.int 2147483647)))) (sSeq (sSet 6 (dBin modD (dCB (on1 intOfD) (dConsL (dO (dBin addD (dBin mulD (dVar 6) (dC (.int 69621))) (dBin mulD (dC (.int 31)) (dVar 5)))) dNilL)) (dC (.int 2147483629)))) (sSeq (sAppend 4 (dBin modD (dCB (on1 intOfD) (dConsL (dO (dBin fdivD (dVar 6) (dC (.int 7)))) dNilL)) (dVar 1))) sNil)))) (sSeq (sRetV 4) sNil))))))
noncomputable def F__law_draws : Fn := fnDen ce__law_draws.A 3 7 m__law_draws
theorem c__law_draws : cSs 200 ce__law_draws (defBody (top 22)) = some m__law_draws := rfl
theorem k__law_draws : DefOk ce__law_draws ["cell", "modulus", "count"] "_law_draws" (defArgs (top 22)) := ⟨⟨rfl, rfl, rfl, by decide +kernel, rfl, by decide +kernel, by decide +kernel⟩, by decide, fun _ _ _ _ _ _ _ _ us hl => match us, hl with | [_, _, _], _ => rfl⟩
/-! ### _law_box -/
noncomputable def ce__law_box : CE := { N := ["script", "row", "cell"], sc := defScope (top 23), own := fun x => (defScope (top 23)).names.lookup x == some .cell, A := fun i => decide (i ∈ ([1, 2] : List Nat)), np := 1, fns := [("_law_draws", [true, true, true], F__law_draws)], cons := [], free := ["len"] }
noncomputable def m__law_box : DenS := (sSeq (sSet 1 (dLst dNilA)) (sSeq (sFor (dIter (dVar 0)) (gNm 2) (sSeq (sSet 1 (dBin addD (dVar 1) (dCall F__law_draws (dConsL (dSl 2) (dConsL (dO (dC (.int 1000003))) (dConsL (dO (dC (.int 6))) dNilL)))))) sNil)) (sSeq (dIf (dBl (dBin eqD (dCB (on1 lenD) (dConsL (dSl 1) dNilL)) (dC (.int 0)))) (sSeq (sSet 1 (dLst (dConsA (dC (.int 11)) (dConsA (dC (.int 5)) (dConsA (dC (.int 2)) (dConsA (dC (.int 7)) (dConsA (dC (.int 31)) (dConsA (dC (.int 101)) (dConsA (dC (.int 997)) dNilA))))))))) sNil) sNil) (sSeq (sRet (dDisp (dConsP (dC (.str "row")) (dVar 1) (dConsP (dC (.str "at")) (dC (.int 0)) dNilP)))) sNil))))
noncomputable def F__law_box : Fn := fnDen ce__law_box.A 1 3 m__law_box
theorem c__law_box : cSs 200 ce__law_box (defBody (top 23)) = some m__law_box := rfl
theorem k__law_box : DefOk ce__law_box ["script"] "_law_box" (defArgs (top 23)) := ⟨⟨rfl, rfl, rfl, by decide +kernel, rfl, by decide +kernel, by decide +kernel⟩, by decide, fun _ _ _ _ _ _ _ _ us hl => match us, hl with | [_], _ => rfl⟩
/-! ### _law_after -/
noncomputable def ce__law_after : CE := { N := ["row", "change", "made", "place", "k"], sc := defScope (top 28), own := fun x => (defScope (top 28)).names.lookup x == some .cell, A := fun i => decide (i ∈ ([2, 3, 4] : List Nat)), np := 2, fns := [], cons := [], free := ["list", "range", "len", "tuple"] }
noncomputable def m__law_after : DenS := (sSeq (sSet 2 (dCB (on1 listD) (dConsL (dSl 0) dNilL))) (sSeq (sSet 3 (dC (.int 1))) (sSeq (sFor (dIter (dCB (rangeD) (dConsL (dO (dCB (on1 lenD) (dConsL (dSl 0) dNilL))) dNilL))) (gNm 4) (sSeq (dIf (dBl (dBin leD (dVar 3) (dCB (on1 lenD) (dConsL (dSl 0) dNilL)))) (sSeq (dIf (dBl (dBinO (hasRul false) (dSl 3) (dSl 1))) (sSeq (sSet 3 (dBin addD (dVar 3) (dC (.int 1)))) sNil) (sSeq (sAsgG (dTup (dConsA (dBinO ixD (dSl 2) (dSl 3)) (dConsA (dBinO ixD (dSl 2) (dO (dBin subD (dVar 3) (dC (.int 1))))) dNilA))) (gTp 2 (gCn (gSubIx 2 (dBin subD (dVar 3) (dC (.int 1)))) (gCn (gSubIx 2 (dVar 3)) gNl)))) (sSeq (sSet 3 (dBin addD (dVar 3) (dC (.int 2)))) sNil))) sNil) sNil) sNil)) (sSeq (sRet (dCB (on1 tupleD) (dConsL (dSl 2) dNilL))) sNil))))
noncomputable def F__law_after : Fn := fnDen ce__law_after.A 2 5 m__law_after
theorem c__law_after : cSs 200 ce__law_after (defBody (top 28)) = some m__law_after := rfl
theorem k__law_after : DefOk ce__law_after ["row", "change"] "_law_after" (defArgs (top 28)) := ⟨⟨rfl, rfl, rfl, by decide +kernel, rfl, by decide +kernel, by decide +kernel⟩, by decide, fun _ _ _ _ _ _ _ _ us hl => match us, hl with | [_, _], _ => rfl⟩
/-! ### _law_rows -/
noncomputable def ce__law_rows : CE := { N := ["start", "changes", "found", "change"], sc := defScope (top 29), own := fun x => (defScope (top 29)).names.lookup x == some .cell, A := fun i => decide (i ∈ ([2, 3] : List Nat)), np := 2, fns := [("_law_after", [true, true], F__law_after)], cons := [], free := [] }
noncomputable def m__law_rows : DenS := (sSeq (sSet 2 (dLst (dConsA (dVar 0) dNilA))) (sSeq (sFor (dIter (dVar 1)) (gNm 3) (sSeq (sAppend 2 (dCall F__law_after (dConsL (dO (dBinO ixD (dSl 2) (dO (dUn negD (dC (.int 1)))))) (dConsL (dSl 3) dNilL)))) sNil)) (sSeq (sRetV 2) sNil)))
noncomputable def F__law_rows : Fn := fnDen ce__law_rows.A 2 4 m__law_rows
theorem c__law_rows : cSs 200 ce__law_rows (defBody (top 29)) = some m__law_rows := rfl
theorem k__law_rows : DefOk ce__law_rows ["start", "changes"] "_law_rows" (defArgs (top 29)) := ⟨⟨rfl, rfl, rfl, by decide +kernel, rfl, by decide +kernel, by decide +kernel⟩, by decide, fun _ _ _ _ _ _ _ _ us hl => match us, hl with | [_, _], _ => rfl⟩
/-! ### place_of -/
noncomputable def ce_place_of : CE := { N := ["row", "bell"], sc := defScope (top 3), own := fun x => (defScope (top 3)).names.lookup x == some .cell, A := fun i => decide (i ∈ ([] : List Nat)), np := 2, fns := [], cons := [], free := [] }
noncomputable def m_place_of : DenS := (sSeq (sRet (dBin addD (dM indexA (dSl 0) (dConsA (dVar 1) dNilA)) (dC (.int 1)))) sNil)
noncomputable def F_place_of : Fn := fnDen ce_place_of.A 2 2 m_place_of
theorem c_place_of : cSs 200 ce_place_of (defBody (top 3)) = some m_place_of := rfl
theorem k_place_of : DefOk ce_place_of ["row", "bell"] "place_of" (defArgs (top 3)) := ⟨⟨rfl, rfl, rfl, by decide +kernel, rfl, by decide +kernel, by decide +kernel⟩, by decide, fun _ _ _ _ _ _ _ _ us hl => match us, hl with | [_, _], _ => rfl⟩
/-! ### times -/
noncomputable def ce_times : CE := { N := ["one", "two", "place"], sc := defScope (top 2), own := fun x => (defScope (top 2)).names.lookup x == some .cell, A := fun i => decide (i ∈ ([] : List Nat)), np := 2, fns := [], cons := [], free := ["tuple"] }
noncomputable def m_times : DenS := (sSeq (sRet (dCB (on1 tupleD) (dConsL (dO (dComp [2] (dIter (dVar 1)) (gNm 2) dYes (dBinO ixD (dSl 0) (dO (dBin subD (dVar 2) (dC (.int 1))))))) dNilL))) sNil)
noncomputable def F_times : Fn := fnDen ce_times.A 2 3 m_times
theorem c_times : cSs 200 ce_times (defBody (top 2)) = some m_times := rfl
theorem k_times : DefOk ce_times ["one", "two"] "times" (defArgs (top 2)) := ⟨⟨rfl, rfl, rfl, by decide +kernel, rfl, by decide +kernel, by decide +kernel⟩, by decide, fun _ _ _ _ _ _ _ _ us hl => match us, hl with | [_, _], _ => rfl⟩
/-! ### rounds -/
noncomputable def ce_rounds : CE := { N := ["stage"], sc := defScope (top 1), own := fun x => (defScope (top 1)).names.lookup x == some .cell, A := fun i => decide (i ∈ ([] : List Nat)), np := 1, fns := [], cons := [], free := ["tuple", "range"] }
noncomputable def m_rounds : DenS := (sSeq (sRet (dCB (on1 tupleD) (dConsL (dO (dCB (rangeD) (dConsL (dO (dC (.int 1))) (dConsL (dO (dBin addD (dVar 0) (dC (.int 1)))) dNilL)))) dNilL))) sNil)
noncomputable def F_rounds : Fn := fnDen ce_rounds.A 1 1 m_rounds
theorem c_rounds : cSs 200 ce_rounds (defBody (top 1)) = some m_rounds := rfl
theorem k_rounds : DefOk ce_rounds ["stage"] "rounds" (defArgs (top 1)) := ⟨⟨rfl, rfl, rfl, by decide +kernel, rfl, by decide +kernel, by decide +kernel⟩, by decide, fun _ _ _ _ _ _ _ _ us hl => match us, hl with | [_], _ => rfl⟩
/-! ### change_row -/
noncomputable def ce_change_row : CE := { N := ["stage", "change", "found", "place"], sc := defScope (top 5), own := fun x => (defScope (top 5)).names.lookup x == some .cell, A := fun i => decide (i ∈ ([2, 3] : List Nat)), np := 2, fns := [("rounds", [true], F_rounds)], cons := [], free := ["list", "tuple"] }
noncomputable def m_change_row : DenS := (sSeq (sSet 2 (dCB (on1 listD) (dConsL (dO (dCall F_rounds (dConsL (dSl 0) dNilL))) dNilL))) (sSeq (sSet 3 (dC (.int 1))) (sSeq (sWhile (dBl (dBin leD (dVar 3) (dVar 0))) (sSeq (dIf (dBl (dBinO (hasRul false) (dSl 3) (dSl 1))) (sSeq (sAug true iaddD 3 (dC (.int 1))) sNil) (sSeq (sAsgG (dTup (dConsA (dBinO ixD (dSl 2) (dSl 3)) (dConsA (dBinO ixD (dSl 2) (dO (dBin subD (dVar 3) (dC (.int 1))))) dNilA))) (gTp 2 (gCn (gSubIx 2 (dBin subD (dVar 3) (dC (.int 1)))) (gCn (gSubIx 2 (dVar 3)) gNl)))) (sSeq (sAug true iaddD 3 (dC (.int 2))) sNil))) sNil)) (sSeq (sRet (dCB (on1 tupleD) (dConsL (dSl 2) dNilL))) sNil))))
noncomputable def F_change_row : Fn := fnDen ce_change_row.A 2 4 m_change_row
theorem c_change_row : cSs 200 ce_change_row (defBody (top 5)) = some m_change_row := rfl
theorem k_change_row : DefOk ce_change_row ["stage", "change"] "change_row" (defArgs (top 5)) := ⟨⟨rfl, rfl, rfl, by decide +kernel, rfl, by decide +kernel, by decide +kernel⟩, by decide, fun _ _ _ _ _ _ _ _ us hl => match us, hl with | [_, _], _ => rfl⟩
/-! ### after -/
noncomputable def ce_after : CE := { N := ["row", "change"], sc := defScope (top 6), own := fun x => (defScope (top 6)).names.lookup x == some .cell, A := fun i => decide (i ∈ ([] : List Nat)), np := 2, fns := [("times", [true, true], F_times), ("change_row", [true, true], F_change_row)], cons := [], free := ["len"] }
noncomputable def m_after : DenS := (sSeq (sRet (dCall F_times (dConsL (dSl 0) (dConsL (dO (dCall F_change_row (dConsL (dO (dCB (on1 lenD) (dConsL (dSl 0) dNilL))) (dConsL (dSl 1) dNilL)))) dNilL)))) sNil)
noncomputable def F_after : Fn := fnDen ce_after.A 2 2 m_after
theorem c_after : cSs 200 ce_after (defBody (top 6)) = some m_after := rfl
theorem k_after : DefOk ce_after ["row", "change"] "after" (defArgs (top 6)) := ⟨⟨rfl, rfl, rfl, by decide +kernel, rfl, by decide +kernel, by decide +kernel⟩, by decide, fun _ _ _ _ _ _ _ _ us hl => match us, hl with | [_, _], _ => rfl⟩
/-! ### rows_from -/
noncomputable def ce_rows_from : CE := { N := ["start", "changes", "found", "change"], sc := defScope (top 7), own := fun x => (defScope (top 7)).names.lookup x == some .cell, A := fun i => decide (i ∈ ([2, 3] : List Nat)), np := 2, fns := [("after", [true, true], F_after)], cons := [], free := [] }
noncomputable def m_rows_from : DenS := (sSeq (sSet 2 (dLst (dConsA (dVar 0) dNilA))) (sSeq (sFor (dIter (dVar 1)) (gNm 3) (sSeq (sAppend 2 (dCall F_after (dConsL (dO (dBinO ixD (dSl 2) (dO (dUn negD (dC (.int 1)))))) (dConsL (dSl 3) dNilL)))) sNil)) (sSeq (sRetV 2) sNil)))
noncomputable def F_rows_from : Fn := fnDen ce_rows_from.A 2 4 m_rows_from
theorem c_rows_from : cSs 200 ce_rows_from (defBody (top 7)) = some m_rows_from := rfl
theorem k_rows_from : DefOk ce_rows_from ["start", "changes"] "rows_from" (defArgs (top 7)) := ⟨⟨rfl, rfl, rfl, by decide +kernel, rfl, by decide +kernel, by decide +kernel⟩, by decide, fun _ _ _ _ _ _ _ _ us hl => match us, hl with | [_, _], _ => rfl⟩
/-! ### path_of -/
noncomputable def ce_path_of : CE := { N := ["method", "place", "row"], sc := defScope (top 12), own := fun x => (defScope (top 12)).names.lookup x == some .cell, A := fun i => decide (i ∈ ([] : List Nat)), np := 2, fns := [("rows_from", [true, true], F_rows_from), ("rounds", [true], F_rounds), ("place_of", [true, true], F_place_of)], cons := [], free := [] }
noncomputable def m_path_of : DenS := (sSeq (sRet (dComp [2] (dIter (dCall F_rows_from (dConsL (dO (dCall F_rounds (dConsL (dO (dBinO ixD (dSl 0) (dO (dC (.int 0))))) dNilL))) (dConsL (dO (dBinO ixD (dSl 0) (dO (dC (.int 1))))) dNilL)))) (gNm 2) dYes (dCall F_place_of (dConsL (dSl 2) (dConsL (dSl 1) dNilL))))) sNil)
noncomputable def F_path_of : Fn := fnDen ce_path_of.A 2 3 m_path_of
theorem c_path_of : cSs 200 ce_path_of (defBody (top 12)) = some m_path_of := rfl
theorem k_path_of : DefOk ce_path_of ["method", "place"] "path_of" (defArgs (top 12)) := ⟨⟨rfl, rfl, rfl, by decide +kernel, rfl, by decide +kernel, by decide +kernel⟩, by decide, fun _ _ _ _ _ _ _ _ us hl => match us, hl with | [_, _], _ => rfl⟩
/-! ### _law_rounds -/
noncomputable def ce__law_rounds : CE := { N := ["stage"], sc := defScope (top 25), own := fun x => (defScope (top 25)).names.lookup x == some .cell, A := fun i => decide (i ∈ ([] : List Nat)), np := 1, fns := [], cons := [], free := ["tuple", "range"] }
noncomputable def m__law_rounds : DenS := (sSeq (sRet (dCB (on1 tupleD) (dConsL (dO (dCB (rangeD) (dConsL (dO (dC (.int 1))) (dConsL (dO (dBin addD (dVar 0) (dC (.int 1)))) dNilL)))) dNilL))) sNil)
noncomputable def F__law_rounds : Fn := fnDen ce__law_rounds.A 1 1 m__law_rounds
theorem c__law_rounds : cSs 200 ce__law_rounds (defBody (top 25)) = some m__law_rounds := rfl
theorem k__law_rounds : DefOk ce__law_rounds ["stage"] "_law_rounds" (defArgs (top 25)) := ⟨⟨rfl, rfl, rfl, by decide +kernel, rfl, by decide +kernel, by decide +kernel⟩, by decide, fun _ _ _ _ _ _ _ _ us hl => match us, hl with | [_], _ => rfl⟩
/-! ### _law_places -/
noncomputable def ce__law_places : CE := { N := ["method", "place", "found", "heads", "here", "k", "rows", "row"], sc := defScope (top 33), own := fun x => (defScope (top 33)).names.lookup x == some .cell, A := fun i => decide (i ∈ ([2, 3, 4, 5, 6] : List Nat)), np := 2, fns := [("_law_rows", [true, true], F__law_rows), ("_law_rounds", [true], F__law_rounds)], cons := [], free := ["range"] }
noncomputable def m__law_places : DenS := (sSeq (sPar 2 3 (dLst dNilA) (dLst dNilA)) (sSeq (sSet 4 (dVar 1)) (sSeq (sFor (dIter (dCB (rangeD) (dConsL (dO (dC (.int 20))) dNilL))) (gNm 5) (sSeq (dIf (dAnd (dBl (dBin gtD (dVar 5) (dC (.int 0)))) (dBl (dBin eqD (dVar 4) (dVar 1)))) (sSeq (sRet (dTup (dConsA (dVar 2) (dConsA (dVar 3) dNilA)))) sNil) sNil) (sSeq (sAppend 3 (dVar 4)) (sSeq (sSet 6 (dCall F__law_rows (dConsL (dO (dCall F__law_rounds (dConsL (dO (dBinO ixD (dSl 0) (dO (dC (.int 0))))) dNilL))) (dConsL (dO (dBinO ixD (dSl 0) (dO (dC (.int 1))))) dNilL)))) (sSeq (sSet 2 (dBin addD (dVar 2) (dComp [7] (dIter (dSlice (dSl 6) none (some (dUn negD (dC (.int 1)))))) (gNm 7) dYes (dBin addD (dM indexA (dSl 7) (dConsA (dVar 4) dNilA)) (dC (.int 1)))))) (sSeq (sSet 4 (dBin addD (dM indexA (dO (dBinO ixD (dSl 6) (dO (dUn negD (dC (.int 1)))))) (dConsA (dVar 4) dNilA)) (dC (.int 1)))) sNil)))))) (sSeq (sRet (dC .non)) sNil))))
noncomputable def F__law_places : Fn := fnDen ce__law_places.A 2 8 m__law_places
theorem c__law_places : cSs 200 ce__law_places (defBody (top 33)) = some m__law_places := rfl
theorem k__law_places : DefOk ce__law_places ["method", "place"] "_law_places" (defArgs (top 33)) := ⟨⟨rfl, rfl, rfl, by decide +kernel, rfl, by decide +kernel, by decide +kernel⟩, by decide, fun _ _ _ _ _ _ _ _ us hl => match us, hl with | [_, _], _ => rfl⟩
/-! ### line_of -/
noncomputable def ce_line_of : CE := { N := ["method", "place", "found", "here", "path"], sc := defScope (top 13), own := fun x => (defScope (top 13)).names.lookup x == some .cell, A := fun i => decide (i ∈ ([2, 3, 4] : List Nat)), np := 2, fns := [("path_of", [true, true], F_path_of)], cons := [], free := [] }
noncomputable def m_line_of : DenS := (sSeq (sSet 2 (dLst dNilA)) (sSeq (sSet 3 (dVar 1)) (sSeq (sWhile (dTru (dO (dC (.bl true)))) (sSeq (sSet 4 (dCall F_path_of (dConsL (dSl 0) (dConsL (dSl 3) dNilL)))) (sSeq (sAug true iaddD 2 (dSlice (dSl 4) none (some (dUn negD (dC (.int 1)))))) (sSeq (sSet 3 (dBinO ixD (dSl 4) (dO (dUn negD (dC (.int 1)))))) (sSeq (dIf (dBl (dBin eqD (dVar 3) (dVar 1))) (sSeq (sRetV 2) sNil) sNil) sNil))))) sNil)))
noncomputable def F_line_of : Fn := fnDen ce_line_of.A 2 5 m_line_of
theorem c_line_of : cSs 200 ce_line_of (defBody (top 13)) = some m_line_of := rfl
theorem k_line_of : DefOk ce_line_of ["method", "place"] "line_of" (defArgs (top 13)) := ⟨⟨rfl, rfl, rfl, by decide +kernel, rfl, by decide +kernel, by decide +kernel⟩, by decide, fun _ _ _ _ _ _ _ _ us hl => match us, hl with | [_, _], _ => rfl⟩
/-! ### longest_stay -/
noncomputable def ce_longest_stay : CE := { N := ["method", "most", "place", "line", "twice", "run", "number"], sc := defScope (top 15), own := fun x => (defScope (top 15)).names.lookup x == some .cell, A := fun i => decide (i ∈ ([1, 2, 3, 4, 5, 6] : List Nat)), np := 1, fns := [("rounds", [true], F_rounds), ("line_of", [true, true], F_line_of)], cons := [], free := ["len", "set", "range", "max"] }
noncomputable def m_longest_stay : DenS := (sSeq (sSet 1 (dC (.int 0))) (sSeq (sFor (dIter (dCall F_rounds (dConsL (dO (dBinO ixD (dSl 0) (dO (dC (.int 0))))) dNilL))) (gNm 2) (sSeq (sSet 3 (dCall F_line_of (dConsL (dSl 0) (dConsL (dSl 2) dNilL)))) (sSeq (dIf (dBl (dBin eqD (dLenSet (dVar 3)) (dC (.int 1)))) (sSeq (sRet (dC .non)) sNil) sNil) (sSeq (sSet 4 (dBin addD (dVar 3) (dVar 3))) (sSeq (sSet 5 (dC (.int 1))) (sSeq (sFor (dIter (dCB (rangeD) (dConsL (dO (dC (.int 1))) (dConsL (dO (dCB (on1 lenD) (dConsL (dSl 4) dNilL))) dNilL)))) (gNm 6) (sSeq (sSet 5 (dIf (dBl (dBin eqD (dBinO ixD (dSl 4) (dSl 6)) (dBinO ixD (dSl 4) (dO (dBin subD (dVar 6) (dC (.int 1))))))) (dBin addD (dVar 5) (dC (.int 1))) (dC (.int 1)))) (sSeq (sSet 1 (dCB (maxL) (dConsL (dSl 1) (dConsL (dSl 5) dNilL)))) sNil))) sNil)))))) (sSeq (sRetV 1) sNil)))
noncomputable def F_longest_stay : Fn := fnDen ce_longest_stay.A 1 7 m_longest_stay
theorem c_longest_stay : cSs 200 ce_longest_stay (defBody (top 15)) = some m_longest_stay := rfl
theorem k_longest_stay : DefOk ce_longest_stay ["method"] "longest_stay" (defArgs (top 15)) := ⟨⟨rfl, rfl, rfl, by decide +kernel, rfl, by decide +kernel, by decide +kernel⟩, by decide, fun _ _ _ _ _ _ _ _ us hl => match us, hl with | [_], _ => rfl⟩
/-! ### _law_next -/
noncomputable def ce__law_next : CE := { N := ["box", "modulus", "at", "number"], sc := defScope (top 24), own := fun x => (defScope (top 24)).names.lookup x == some .cell, A := fun i => decide (i ∈ ([2, 3] : List Nat)), np := 2, fns := [], cons := [], free := ["len", "int"] }
noncomputable def m__law_next : DenS := (sSeq (sSet 2 (dBinO ixD (dSl 0) (dO (dC (.str "at"))))) (sSeq (sSetIx 0 (dC (.str "at")) (dBin addD (dVar 2) (dC (.int 1)))) (sSeq (sSet 3 (dBinO ixD (dO (dBinO ixD (dSl 0) (dO (dC (.str "row"))))) (dO (dBin modD (dVar 2) (dCB (on1 lenD) (dConsL (dO (dBinO ixD (dSl 0) (dO (dC (.str "row"))))) dNilL)))))) (sSeq (sRet (dBin modD (dCB (on1 intOfD) (dConsL (dO (dBin addD (dVar 3) (dBin mulD (dC (.int 7919)) (dBin fdivD (dVar 2) (dCB (on1 lenD) (dConsL (dO (dBinO ixD (dSl 0) (dO (dC (.str "row"))))) dNilL)))))) dNilL)) (dVar 1))) sNil))))
noncomputable def F__law_next : Fn := fnDen ce__law_next.A 2 4 m__law_next
theorem c__law_next : cSs 200 ce__law_next (defBody (top 24)) = some m__law_next := rfl
theorem k__law_next : DefOk ce__law_next ["box", "modulus"] "_law_next" (defArgs (top 24)) := ⟨⟨rfl, rfl, rfl, by decide +kernel, rfl, by decide +kernel, by decide +kernel⟩, by decide, fun _ _ _ _ _ _ _ _ us hl => match us, hl with | [_, _], _ => rfl⟩
/-! ### with_cover -/
noncomputable def ce_with_cover : CE := { N := ["method", "stage", "changes", "change"], sc := defScope (top 20), own := fun x => (defScope (top 20)).names.lookup x == some .cell, A := fun i => decide (i ∈ ([1, 2] : List Nat)), np := 1, fns := [], cons := [], free := ["tuple"] }
noncomputable def m_with_cover : DenS := (sSeq (sAsgG (dVar 0) (gTp 2 (gCn (gNm 1) (gCn (gNm 2) gNl)))) (sSeq (sRet (dTup (dConsA (dBin addD (dVar 1) (dC (.int 1))) (dConsA (dCB (on1 tupleD) (dConsL (dO (dComp [3] (dIter (dVar 2)) (gNm 3) dYes (dBin addD (dVar 3) (dTup (dConsA (dBin addD (dVar 1) (dC (.int 1))) dNilA))))) dNilL)) dNilA)))) sNil))
noncomputable def F_with_cover : Fn := fnDen ce_with_cover.A 1 4 m_with_cover
theorem c_with_cover : cSs 200 ce_with_cover (defBody (top 20)) = some m_with_cover := rfl
theorem k_with_cover : DefOk ce_with_cover ["method"] "with_cover" (defArgs (top 20)) := ⟨⟨rfl, rfl, rfl, by decide +kernel, rfl, by decide +kernel, by decide +kernel⟩, by decide, fun _ _ _ _ _ _ _ _ us hl => match us, hl with | [_], _ => rfl⟩
/-! ### last_row -/
noncomputable def ce_last_row : CE := { N := ["start", "changes", "here", "change"], sc := defScope (top 8), own := fun x => (defScope (top 8)).names.lookup x == some .cell, A := fun i => decide (i ∈ ([2, 3] : List Nat)), np := 2, fns := [("after", [true, true], F_after)], cons := [], free := [] }
noncomputable def m_last_row : DenS := (sSeq (sSet 2 (dVar 0)) (sSeq (sFor (dIter (dVar 1)) (gNm 3) (sSeq (sSet 2 (dCall F_after (dConsL (dSl 2) (dConsL (dSl 3) dNilL)))) sNil)) (sSeq (sRetV 2) sNil)))
noncomputable def F_last_row : Fn := fnDen ce_last_row.A 2 4 m_last_row
theorem c_last_row : cSs 200 ce_last_row (defBody (top 8)) = some m_last_row := rfl
theorem k_last_row : DefOk ce_last_row ["start", "changes"] "last_row" (defArgs (top 8)) := ⟨⟨rfl, rfl, rfl, by decide +kernel, rfl, by decide +kernel, by decide +kernel⟩, by decide, fun _ _ _ _ _ _ _ _ us hl => match us, hl with | [_, _], _ => rfl⟩
/-! ### lead_head -/
noncomputable def ce_lead_head : CE := { N := ["method"], sc := defScope (top 10), own := fun x => (defScope (top 10)).names.lookup x == some .cell, A := fun i => decide (i ∈ ([] : List Nat)), np := 1, fns := [("last_row", [true, true], F_last_row), ("rounds", [true], F_rounds)], cons := [], free := [] }
noncomputable def m_lead_head : DenS := (sSeq (sRet (dCall F_last_row (dConsL (dO (dCall F_rounds (dConsL (dO (dBinO ixD (dSl 0) (dO (dC (.int 0))))) dNilL))) (dConsL (dO (dBinO ixD (dSl 0) (dO (dC (.int 1))))) dNilL)))) sNil)
noncomputable def F_lead_head : Fn := fnDen ce_lead_head.A 1 1 m_lead_head
theorem c_lead_head : cSs 200 ce_lead_head (defBody (top 10)) = some m_lead_head := rfl
theorem k_lead_head : DefOk ce_lead_head ["method"] "lead_head" (defArgs (top 10)) := ⟨⟨rfl, rfl, rfl, by decide +kernel, rfl, by decide +kernel, by decide +kernel⟩, by decide, fun _ _ _ _ _ _ _ _ us hl => match us, hl with | [_], _ => rfl⟩
/-! ### hunt_bells -/
noncomputable def ce_hunt_bells : CE := { N := ["method", "head", "bell"], sc := defScope (top 11), own := fun x => (defScope (top 11)).names.lookup x == some .cell, A := fun i => decide (i ∈ ([1] : List Nat)), np := 1, fns := [("lead_head", [true], F_lead_head), ("rounds", [true], F_rounds)], cons := [], free := [] }
noncomputable def m_hunt_bells : DenS := (sSeq (sSet 1 (dCall F_lead_head (dConsL (dSl 0) dNilL))) (sSeq (sRet (dComp [2] (dIter (dCall F_rounds (dConsL (dO (dBinO ixD (dSl 0) (dO (dC (.int 0))))) dNilL))) (gNm 2) (dBl (dBin eqD (dBinO ixD (dSl 1) (dO (dBin subD (dVar 2) (dC (.int 1))))) (dVar 2))) (dVar 2))) sNil))
noncomputable def F_hunt_bells : Fn := fnDen ce_hunt_bells.A 1 3 m_hunt_bells
theorem c_hunt_bells : cSs 200 ce_hunt_bells (defBody (top 11)) = some m_hunt_bells := rfl
theorem k_hunt_bells : DefOk ce_hunt_bells ["method"] "hunt_bells" (defArgs (top 11)) := ⟨⟨rfl, rfl, rfl, by decide +kernel, rfl, by decide +kernel, by decide +kernel⟩, by decide, fun _ _ _ _ _ _ _ _ us hl => match us, hl with | [_], _ => rfl⟩
/-! ### kind_of -/
noncomputable def ce_kind_of : CE := { N := ["method", "path", "stage"], sc := defScope (top 16), own := fun x => (defScope (top 16)).names.lookup x == some .cell, A := fun i => decide (i ∈ ([1, 2] : List Nat)), np := 1, fns := [("hunt_bells", [true], F_hunt_bells), ("path_of", [true, true], F_path_of)], cons := [], free := ["list", "range", "max"] }
noncomputable def m_kind_of : DenS := (sSeq (dIf (dNot (dTru (dO (dCall F_hunt_bells (dConsL (dSl 0) dNilL))))) (sSeq (sRet (dC (.str "principle"))) sNil) sNil) (sSeq (sSet 1 (dCall F_path_of (dConsL (dSl 0) (dConsL (dO (dC (.int 1))) dNilL)))) (sSeq (sSet 2 (dBinO ixD (dSl 0) (dO (dC (.int 0))))) (sSeq (dIf (dBl (dBin eqD (dSlice (dSl 1) none (some (dUn negD (dC (.int 1))))) (dBin addD (dCB (on1 listD) (dConsL (dO (dCB (rangeD) (dConsL (dO (dC (.int 1))) (dConsL (dO (dBin addD (dVar 2) (dC (.int 1)))) dNilL)))) dNilL)) (dCB (on1 listD) (dConsL (dO (dCB (rangeD) (dConsL (dSl 2) (dConsL (dO (dC (.int 0))) (dConsL (dO (dUn negD (dC (.int 1)))) dNilL))))) dNilL))))) (sSeq (sRet (dC (.str "hunter"))) sNil) sNil) (sSeq (sRet (dIf (dAnd (dBl (dBinO (hasRul false) (dO (dC (.int 1))) (dO (dCall F_hunt_bells (dConsL (dSl 0) dNilL))))) (dBl (dBin ltD (dCB (maxL) (dConsL (dSl 1) dNilL)) (dVar 2)))) (dC (.str "little")) (dC (.str "other")))) sNil)))))
noncomputable def F_kind_of : Fn := fnDen ce_kind_of.A 1 3 m_kind_of
theorem c_kind_of : cSs 200 ce_kind_of (defBody (top 16)) = some m_kind_of := rfl
theorem k_kind_of : DefOk ce_kind_of ["method"] "kind_of" (defArgs (top 16)) := ⟨⟨rfl, rfl, rfl, by decide +kernel, rfl, by decide +kernel, by decide +kernel⟩, by decide, fun _ _ _ _ _ _ _ _ us hl => match us, hl with | [_], _ => rfl⟩
/-! ### _law_all_changes -/
noncomputable def ce__law_all_changes : CE := { N := ["stage", "found", "done", "k", "more", "places", "at"], sc := defScope (top 26), own := fun x => (defScope (top 26)).names.lookup x == some .cell, A := fun i => decide (i ∈ ([1, 2, 3, 4, 5, 6] : List Nat)), np := 1, fns := [], cons := [], free := ["range", "sorted"] }
noncomputable def m__law_all_changes : DenS := (sSeq (sSet 1 (dLst (dConsA (dTup (dConsA (dTup dNilA) (dConsA (dC (.int 0)) dNilA))) dNilA))) (sSeq (sSet 2 (dLst dNilA)) (sSeq (sFor (dIter (dCB (rangeD) (dConsL (dO (dBin addD (dVar 0) (dC (.int 1)))) dNilL))) (gNm 3) (sSeq (sSet 4 (dLst dNilA)) (sSeq (sFor (dIter (dVar 1)) (gTp 2 (gCn (gNm 5) (gCn (gNm 6) gNl))) (sSeq (dIf (dBl (dBin eqD (dVar 6) (dVar 0))) (sSeq (sAppend 2 (dVar 5)) sNil) (sSeq (sAppend 4 (dTup (dConsA (dBin addD (dVar 5) (dTup (dConsA (dBin addD (dVar 6) (dC (.int 1))) dNilA))) (dConsA (dBin addD (dVar 6) (dC (.int 1))) dNilA)))) (sSeq (dIf (dBl (dBin leD (dBin addD (dVar 6) (dC (.int 2))) (dVar 0))) (sSeq (sAppend 4 (dTup (dConsA (dVar 5) (dConsA (dBin addD (dVar 6) (dC (.int 2))) dNilA)))) sNil) sNil) sNil))) sNil)) (sSeq (sSet 1 (dVar 4)) sNil)))) (sSeq (sRet (dCB (on1 sortedD) (dConsL (dSl 2) dNilL))) sNil))))
noncomputable def F__law_all_changes : Fn := fnDen ce__law_all_changes.A 1 7 m__law_all_changes
theorem c__law_all_changes : cSs 200 ce__law_all_changes (defBody (top 26)) = some m__law_all_changes := rfl
theorem k__law_all_changes : DefOk ce__law_all_changes ["stage"] "_law_all_changes" (defArgs (top 26)) := ⟨⟨rfl, rfl, rfl, by decide +kernel, rfl, by decide +kernel, by decide +kernel⟩, by decide, fun _ _ _ _ _ _ _ _ us hl => match us, hl with | [_], _ => rfl⟩
/-! ### _law_change -/
noncomputable def ce__law_change : CE := { N := ["box", "stage", "listed", "change"], sc := defScope (top 27), own := fun x => (defScope (top 27)).names.lookup x == some .cell, A := fun i => decide (i ∈ ([2] : List Nat)), np := 2, fns := [("_law_all_changes", [true], F__law_all_changes), ("_law_next", [true, true], F__law_next)], cons := [], free := ["len"] }
noncomputable def m__law_change : DenS := (sSeq (sSet 2 (dComp [3] (dIter (dCall F__law_all_changes (dConsL (dSl 1) dNilL))) (gNm 3) (dBl (dBin ltD (dCB (on1 lenD) (dConsL (dSl 3) dNilL)) (dVar 1))) (dVar 3))) (sSeq (sRet (dBinO ixD (dSl 2) (dO (dCall F__law_next (dConsL (dSl 0) (dConsL (dO (dCB (on1 lenD) (dConsL (dSl 2) dNilL))) dNilL)))))) sNil))
noncomputable def F__law_change : Fn := fnDen ce__law_change.A 2 4 m__law_change
theorem c__law_change : cSs 200 ce__law_change (defBody (top 27)) = some m__law_change := rfl
theorem k__law_change : DefOk ce__law_change ["box", "stage"] "_law_change" (defArgs (top 27)) := ⟨⟨rfl, rfl, rfl, by decide +kernel, rfl, by decide +kernel, by decide +kernel⟩, by decide, fun _ _ _ _ _ _ _ _ us hl => match us, hl with | [_, _], _ => rfl⟩
/-! ### _law_method -/
noncomputable def ce__law_method : CE := { N := ["box", "stage", "most", "half", "k"], sc := defScope (top 30), own := fun x => (defScope (top 30)).names.lookup x == some .cell, A := fun i => decide (i ∈ ([3] : List Nat)), np := 3, fns := [("_law_next", [true, true], F__law_next), ("_law_change", [true, true], F__law_change)], cons := [], free := ["tuple", "range"] }
noncomputable def m__law_method : DenS := (sSeq (sSet 3 (dCB (on1 tupleD) (dConsL (dO (dComp [4] (dIter (dCB (rangeD) (dConsL (dO (dBin addD (dC (.int 1)) (dCall F__law_next (dConsL (dSl 0) (dConsL (dSl 2) dNilL))))) dNilL))) (gNm 4) dYes (dCall F__law_change (dConsL (dSl 0) (dConsL (dSl 1) dNilL))))) dNilL))) (sSeq (dIf (dBl (dBin eqD (dCall F__law_next (dConsL (dSl 0) (dConsL (dO (dC (.int 2))) dNilL))) (dC (.int 0)))) (sSeq (sRet (dTup (dConsA (dVar 1) (dConsA (dBin addD (dBin addD (dVar 3) (dStep (dSlice (dSl 3) none (some (dUn negD (dC (.int 1))))) none (dUn negD (dC (.int 1))))) (dTup (dConsA (dCall F__law_change (dConsL (dSl 0) (dConsL (dSl 1) dNilL))) dNilA))) dNilA)))) sNil) sNil) (sSeq (sRet (dTup (dConsA (dVar 1) (dConsA (dVar 3) dNilA)))) sNil)))
noncomputable def F__law_method : Fn := fnDen ce__law_method.A 3 5 m__law_method
theorem c__law_method : cSs 200 ce__law_method (defBody (top 30)) = some m__law_method := rfl
theorem k__law_method : DefOk ce__law_method ["box", "stage", "most"] "_law_method" (defArgs (top 30)) := ⟨⟨rfl, rfl, rfl, by decide +kernel, rfl, by decide +kernel, by decide +kernel⟩, by decide, fun _ _ _ _ _ _ _ _ us hl => match us, hl with | [_, _, _], _ => rfl⟩
/-! ### plain_hunt -/
noncomputable def ce_plain_hunt : CE := { N := ["stage"], sc := defScope (top 18), own := fun x => (defScope (top 18)).names.lookup x == some .cell, A := fun i => decide (i ∈ ([] : List Nat)), np := 1, fns := [], cons := [], free := [] }
noncomputable def m_plain_hunt : DenS := (sSeq (dIf (dBl (dBin eqD (dBin modD (dVar 0) (dC (.int 2))) (dC (.int 0)))) (sSeq (sRet (dTup (dConsA (dVar 0) (dConsA (dBin mulD (dTup (dConsA (dTup dNilA) (dConsA (dTup (dConsA (dC (.int 1)) (dConsA (dVar 0) dNilA))) dNilA))) (dVar 0)) dNilA)))) sNil) sNil) (sSeq (sRet (dTup (dConsA (dVar 0) (dConsA (dBin mulD (dTup (dConsA (dTup (dConsA (dVar 0) dNilA)) (dConsA (dTup (dConsA (dC (.int 1)) dNilA)) dNilA))) (dVar 0)) dNilA)))) sNil))
noncomputable def F_plain_hunt : Fn := fnDen ce_plain_hunt.A 1 1 m_plain_hunt
theorem c_plain_hunt : cSs 200 ce_plain_hunt (defBody (top 18)) = some m_plain_hunt := rfl
theorem k_plain_hunt : DefOk ce_plain_hunt ["stage"] "plain_hunt" (defArgs (top 18)) := ⟨⟨rfl, rfl, rfl, by decide +kernel, rfl, by decide +kernel, by decide +kernel⟩, by decide, fun _ _ _ _ _ _ _ _ us hl => match us, hl with | [_], _ => rfl⟩
/-! ### plain_bob -/
noncomputable def ce_plain_bob : CE := { N := ["stage", "changes", "last"], sc := defScope (top 19), own := fun x => (defScope (top 19)).names.lookup x == some .cell, A := fun i => decide (i ∈ ([1, 2] : List Nat)), np := 1, fns := [("plain_hunt", [true], F_plain_hunt)], cons := [], free := [] }
noncomputable def m_plain_bob : DenS := (sSeq (sSet 1 (dBinO ixD (dO (dCall F_plain_hunt (dConsL (dSl 0) dNilL))) (dO (dC (.int 1))))) (sSeq (sSet 2 (dIf (dBl (dBin eqD (dBin modD (dVar 0) (dC (.int 2))) (dC (.int 0)))) (dTup (dConsA (dC (.int 1)) (dConsA (dC (.int 2)) dNilA))) (dTup (dConsA (dC (.int 1)) (dConsA (dC (.int 2)) (dConsA (dVar 0) dNilA)))))) (sSeq (sRet (dTup (dConsA (dVar 0) (dConsA (dBin addD (dSlice (dSl 1) none (some (dUn negD (dC (.int 1))))) (dTup (dConsA (dVar 2) dNilA))) dNilA)))) sNil)))
noncomputable def F_plain_bob : Fn := fnDen ce_plain_bob.A 1 3 m_plain_bob
theorem c_plain_bob : cSs 200 ce_plain_bob (defBody (top 19)) = some m_plain_bob := rfl
theorem k_plain_bob : DefOk ce_plain_bob ["stage"] "plain_bob" (defArgs (top 19)) := ⟨⟨rfl, rfl, rfl, by decide +kernel, rfl, by decide +kernel, by decide +kernel⟩, by decide, fun _ _ _ _ _ _ _ _ us hl => match us, hl with | [_], _ => rfl⟩
/-! ### place_bells -/
noncomputable def ce_place_bells : CE := { N := ["method", "place", "found", "here"], sc := defScope (top 14), own := fun x => (defScope (top 14)).names.lookup x == some .cell, A := fun i => decide (i ∈ ([2, 3] : List Nat)), np := 2, fns := [("path_of", [true, true], F_path_of)], cons := [], free := [] }
noncomputable def m_place_bells : DenS := (sSeq (sSet 2 (dLst (dConsA (dVar 1) dNilA))) (sSeq (sWhile (dTru (dO (dC (.bl true)))) (sSeq (sSet 3 (dBinO ixD (dO (dCall F_path_of (dConsL (dSl 0) (dConsL (dO (dBinO ixD (dSl 2) (dO (dUn negD (dC (.int 1)))))) dNilL)))) (dO (dUn negD (dC (.int 1)))))) (sSeq (dIf (dBl (dBin eqD (dVar 3) (dVar 1))) (sSeq (sRetV 2) sNil) sNil) (sSeq (sAppend 2 (dVar 3)) sNil)))) sNil))
noncomputable def F_place_bells : Fn := fnDen ce_place_bells.A 2 4 m_place_bells
theorem c_place_bells : cSs 200 ce_place_bells (defBody (top 14)) = some m_place_bells := rfl
theorem k_place_bells : DefOk ce_place_bells ["method", "place"] "place_bells" (defArgs (top 14)) := ⟨⟨rfl, rfl, rfl, by decide +kernel, rfl, by decide +kernel, by decide +kernel⟩, by decide, fun _ _ _ _ _ _ _ _ us hl => match us, hl with | [_, _], _ => rfl⟩
/-! ### _law_times -/
noncomputable def ce__law_times : CE := { N := ["one", "two", "place"], sc := defScope (top 31), own := fun x => (defScope (top 31)).names.lookup x == some .cell, A := fun i => decide (i ∈ ([] : List Nat)), np := 2, fns := [], cons := [], free := ["tuple"] }
noncomputable def m__law_times : DenS := (sSeq (sRet (dCB (on1 tupleD) (dConsL (dO (dComp [2] (dIter (dVar 1)) (gNm 2) dYes (dBinO ixD (dSl 0) (dO (dBin subD (dVar 2) (dC (.int 1))))))) dNilL))) sNil)
noncomputable def F__law_times : Fn := fnDen ce__law_times.A 2 3 m__law_times
theorem c__law_times : cSs 200 ce__law_times (defBody (top 31)) = some m__law_times := rfl
theorem k__law_times : DefOk ce__law_times ["one", "two"] "_law_times" (defArgs (top 31)) := ⟨⟨rfl, rfl, rfl, by decide +kernel, rfl, by decide +kernel, by decide +kernel⟩, by decide, fun _ _ _ _ _ _ _ _ us hl => match us, hl with | [_, _], _ => rfl⟩
/-! ### _law_order -/
noncomputable def ce__law_order : CE := { N := ["row", "here", "k"], sc := defScope (top 32), own := fun x => (defScope (top 32)).names.lookup x == some .cell, A := fun i => decide (i ∈ ([1, 2] : List Nat)), np := 1, fns := [("_law_rounds", [true], F__law_rounds), ("_law_times", [true, true], F__law_times)], cons := [], free := ["range", "len"] }
noncomputable def m__law_order : DenS := (sSeq (sSet 1 (dVar 0)) (sSeq (sFor (dIter (dCB (rangeD) (dConsL (dO (dC (.int 1))) (dConsL (dO (dC (.int 100))) dNilL)))) (gNm 2) (sSeq (dIf (dBl (dBin eqD (dVar 1) (dCall F__law_rounds (dConsL (dO (dCB (on1 lenD) (dConsL (dSl 0) dNilL))) dNilL)))) (sSeq (sRetV 2) sNil) sNil) (sSeq (sSet 1 (dCall F__law_times (dConsL (dSl 1) (dConsL (dSl 0) dNilL)))) sNil))) (sSeq (sRet (dC .non)) sNil)))
noncomputable def F__law_order : Fn := fnDen ce__law_order.A 1 3 m__law_order
theorem c__law_order : cSs 200 ce__law_order (defBody (top 32)) = some m__law_order := rfl
theorem k__law_order : DefOk ce__law_order ["row"] "_law_order" (defArgs (top 32)) := ⟨⟨rfl, rfl, rfl, by decide +kernel, rfl, by decide +kernel, by decide +kernel⟩, by decide, fun _ _ _ _ _ _ _ _ us hl => match us, hl with | [_], _ => rfl⟩
/-! ### _law_stay -/
noncomputable def ce__law_stay : CE := { N := ["method", "many", "rows", "most", "bell", "places", "run", "k", "row"], sc := defScope (top 34), own := fun x => (defScope (top 34)).names.lookup x == some .cell, A := fun i => decide (i ∈ ([1, 2, 3, 4, 5, 6, 7] : List Nat)), np := 1, fns := [("_law_order", [true], F__law_order), ("_law_rows", [true, true], F__law_rows), ("_law_rounds", [true], F__law_rounds)], cons := [], free := ["range", "len", "set", "max"] }
noncomputable def m__law_stay : DenS := (sSeq (sSet 1 (dCall F__law_order (dConsL (dO (dBinO ixD (dO (dCall F__law_rows (dConsL (dO (dCall F__law_rounds (dConsL (dO (dBinO ixD (dSl 0) (dO (dC (.int 0))))) dNilL))) (dConsL (dO (dBinO ixD (dSl 0) (dO (dC (.int 1))))) dNilL)))) (dO (dUn negD (dC (.int 1)))))) dNilL))) (sSeq (sSet 2 (dCall F__law_rows (dConsL (dO (dCall F__law_rounds (dConsL (dO (dBinO ixD (dSl 0) (dO (dC (.int 0))))) dNilL))) (dConsL (dO (dBin mulD (dBin mulD (dBinO ixD (dSl 0) (dO (dC (.int 1)))) (dVar 1)) (dC (.int 2)))) dNilL)))) (sSeq (sSet 3 (dC (.int 0))) (sSeq (sFor (dIter (dCB (rangeD) (dConsL (dO (dC (.int 1))) (dConsL (dO (dBin addD (dBinO ixD (dSl 0) (dO (dC (.int 0)))) (dC (.int 1)))) dNilL)))) (gNm 4) (sSeq (sSet 5 (dComp [8] (dIter (dVar 2)) (gNm 8) dYes (dM indexA (dSl 8) (dConsA (dVar 4) dNilA)))) (sSeq (dIf (dBl (dBin eqD (dLenSet (dVar 5)) (dC (.int 1)))) (sSeq (sRet (dC .non)) sNil) sNil) (sSeq (sSet 6 (dC (.int 1))) (sSeq (sFor (dIter (dCB (rangeD) (dConsL (dO (dC (.int 1))) (dConsL (dO (dCB (on1 lenD) (dConsL (dSl 5) dNilL))) dNilL)))) (gNm 7) (sSeq (sSet 6 (dIf (dBl (dBin eqD (dBinO ixD (dSl 5) (dSl 7)) (dBinO ixD (dSl 5) (dO (dBin subD (dVar 7) (dC (.int 1))))))) (dBin addD (dVar 6) (dC (.int 1))) (dC (.int 1)))) (sSeq (sSet 3 (dCB (maxL) (dConsL (dSl 3) (dConsL (dSl 6) dNilL)))) sNil))) sNil))))) (sSeq (sRetV 3) sNil)))))
noncomputable def F__law_stay : Fn := fnDen ce__law_stay.A 1 9 m__law_stay
theorem c__law_stay : cSs 200 ce__law_stay (defBody (top 34)) = some m__law_stay := rfl
theorem k__law_stay : DefOk ce__law_stay ["method"] "_law_stay" (defArgs (top 34)) := ⟨⟨rfl, rfl, rfl, by decide +kernel, rfl, by decide +kernel, by decide +kernel⟩, by decide, fun _ _ _ _ _ _ _ _ us hl => match us, hl with | [_], _ => rfl⟩
/-! ### _law_kind -/
noncomputable def ce__law_kind : CE := { N := ["method", "rows", "fixed", "path", "up", "bell", "row"], sc := defScope (top 35), own := fun x => (defScope (top 35)).names.lookup x == some .cell, A := fun i => decide (i ∈ ([1, 2, 3, 4] : List Nat)), np := 1, fns := [("_law_rows", [true, true], F__law_rows), ("_law_rounds", [true], F__law_rounds)], cons := [], free := ["range", "len", "list"] }
noncomputable def m__law_kind : DenS := (sSeq (sSet 1 (dCall F__law_rows (dConsL (dO (dCall F__law_rounds (dConsL (dO (dBinO ixD (dSl 0) (dO (dC (.int 0))))) dNilL))) (dConsL (dO (dBinO ixD (dSl 0) (dO (dC (.int 1))))) dNilL)))) (sSeq (sSet 2 (dComp [5] (dIter (dCB (rangeD) (dConsL (dO (dC (.int 1))) (dConsL (dO (dBin addD (dBinO ixD (dSl 0) (dO (dC (.int 0)))) (dC (.int 1)))) dNilL)))) (gNm 5) (dBl (dBin eqD (dBinO ixD (dO (dBinO ixD (dSl 1) (dO (dUn negD (dC (.int 1)))))) (dO (dBin subD (dVar 5) (dC (.int 1))))) (dVar 5))) (dVar 5))) (sSeq (dIf (dBl (dBin eqD (dCB (on1 lenD) (dConsL (dSl 2) dNilL)) (dC (.int 0)))) (sSeq (sRet (dC (.str "principle"))) sNil) sNil) (sSeq (sSet 3 (dComp [6] (dIter (dVar 1)) (gNm 6) dYes (dBin addD (dM indexA (dSl 6) (dConsA (dC (.int 1)) dNilA)) (dC (.int 1))))) (sSeq (sSet 4 (dCB (on1 listD) (dConsL (dO (dCB (rangeD) (dConsL (dO (dC (.int 1))) (dConsL (dO (dBin addD (dBinO ixD (dSl 0) (dO (dC (.int 0)))) (dC (.int 1)))) dNilL)))) dNilL))) (sSeq (dIf (dBl (dBin eqD (dSlice (dSl 3) none (some (dUn negD (dC (.int 1))))) (dBin addD (dVar 4) (dStep (dVar 4) none (dUn negD (dC (.int 1))))))) (sSeq (sRet (dC (.str "hunter"))) sNil) sNil) (sSeq (sRet (dIf (dAnd (dBl (dBinO (hasRul false) (dO (dC (.int 1))) (dSl 2))) (dBl (dBinO (hasRul true) (dO (dBinO ixD (dSl 0) (dO (dC (.int 0))))) (dSl 3)))) (dC (.str "little")) (dC (.str "other")))) sNil)))))))
noncomputable def F__law_kind : Fn := fnDen ce__law_kind.A 1 7 m__law_kind
theorem c__law_kind : cSs 200 ce__law_kind (defBody (top 35)) = some m__law_kind := rfl
theorem k__law_kind : DefOk ce__law_kind ["method"] "_law_kind" (defArgs (top 35)) := ⟨⟨rfl, rfl, rfl, by decide +kernel, rfl, by decide +kernel, by decide +kernel⟩, by decide, fun _ _ _ _ _ _ _ _ us hl => match us, hl with | [_], _ => rfl⟩
/-! ### law -/
noncomputable def ce_law : CE := { N := ["script", "box", "k", "stage", "method", "place", "rows", "told", "line", "heads", "stay", "row"], sc := defScope (top 36), own := fun x => (defScope (top 36)).names.lookup x == some .cell, A := fun i => decide (i ∈ ([1, 2, 3, 4, 5, 6, 7, 8, 9, 10] : List Nat)), np := 1, fns := [("_law_box", [true], F__law_box), ("_law_next", [true, true], F__law_next), ("_law_method", [true, true, true], F__law_method), ("plain_bob", [true], F_plain_bob), ("plain_hunt", [true], F_plain_hunt), ("with_cover", [true], F_with_cover), ("_law_rows", [true, true], F__law_rows), ("_law_rounds", [true], F__law_rounds), ("path_of", [true, true], F_path_of), ("_law_places", [true, true], F__law_places), ("line_of", [true, true], F_line_of), ("place_bells", [true, true], F_place_bells), ("longest_stay", [true], F_longest_stay), ("_law_stay", [true], F__law_stay), ("kind_of", [true], F_kind_of), ("_law_kind", [true], F__law_kind)], cons := [], free := ["range", "isinstance", "list", "bool"] }
noncomputable def m_law : DenS := (sSeq (sSet 1 (dCall F__law_box (dConsL (dSl 0) dNilL))) (sSeq (sFor (dIter (dCB (rangeD) (dConsL (dO (dC (.int 3))) dNilL))) (gNm 2) (sSeq (sSet 3 (dBin addD (dC (.int 3)) (dCall F__law_next (dConsL (dSl 1) (dConsL (dO (dC (.int 6))) dNilL))))) (sSeq (sSet 4 (dBinO ixD (dO (dLst (dConsA (dCall F__law_method (dConsL (dSl 1) (dConsL (dSl 3) (dConsL (dO (dC (.int 4))) dNilL)))) (dConsA (dCall F__law_method (dConsL (dSl 1) (dConsL (dSl 3) (dConsL (dO (dC (.int 4))) dNilL)))) (dConsA (dCall F_plain_bob (dConsL (dSl 3) dNilL)) (dConsA (dCall F_plain_hunt (dConsL (dSl 3) dNilL)) dNilA)))))) (dO (dCall F__law_next (dConsL (dSl 1) (dConsL (dO (dC (.int 4))) dNilL)))))) (sSeq (dIf (dAnd (dBl (dBin gtD (dVar 3) (dC (.int 3)))) (dBl (dBin eqD (dCall F__law_next (dConsL (dSl 1) (dConsL (dO (dC (.int 3))) dNilL))) (dC (.int 0))))) (sSeq (sSet 4 (dCall F_with_cover (dConsL (dO (dCall F_plain_bob (dConsL (dO (dBin subD (dVar 3) (dC (.int 1)))) dNilL))) dNilL))) sNil) sNil) (sSeq (sSet 5 (dBin addD (dC (.int 1)) (dCall F__law_next (dConsL (dSl 1) (dConsL (dSl 3) dNilL))))) (sSeq (sSet 6 (dCall F__law_rows (dConsL (dO (dCall F__law_rounds (dConsL (dSl 3) dNilL))) (dConsL (dO (dBinO ixD (dSl 4) (dO (dC (.int 1))))) dNilL)))) (sSeq (sSet 7 (dCall F_path_of (dConsL (dSl 4) (dConsL (dSl 5) dNilL)))) (sSeq (dIf (dOr (dNot (dTru (dO (dCB (isiD) (dConsL (dSl 7) (dConsL (dO (dC (.ty "list"))) dNilL)))))) (dBl (dBin neD (dVar 7) (dComp [11] (dIter (dVar 6)) (gNm 11) dYes (dBin addD (dM indexA (dSl 11) (dConsA (dVar 5) dNilA)) (dC (.int 1))))))) (sSeq (sRet (dC (.bl false))) sNil) sNil) (sSeq (sAsgG (dCall F__law_places (dConsL (dSl 4) (dConsL (dSl 5) dNilL))) (gTp 2 (gCn (gNm 8) (gCn (gNm 9) gNl)))) (sSeq (dIf (dOr (dBl (dBin neD (dCall F_line_of (dConsL (dSl 4) (dConsL (dSl 5) dNilL))) (dVar 8))) (dBl (dBin neD (dCall F_place_bells (dConsL (dSl 4) (dConsL (dSl 5) dNilL))) (dVar 9)))) (sSeq (sRet (dC (.bl false))) sNil) sNil) (sSeq (sSet 10 (dCall F_longest_stay (dConsL (dSl 4) dNilL))) (sSeq (dIf (dOr (dBl (dBin neD (dVar 10) (dCall F__law_stay (dConsL (dSl 4) dNilL)))) (dOr (dTru (dO (dCB (isiD) (dConsL (dSl 10) (dConsL (dO (dC (.ty "bool"))) dNilL))))) (dBl (dBin neD (dCall F_kind_of (dConsL (dSl 4) dNilL)) (dCall F__law_kind (dConsL (dSl 4) dNilL)))))) (sSeq (sRet (dC (.bl false))) sNil) sNil) sNil)))))))))))) (sSeq (sRet (dAndV (dBin eqD (dCall F_kind_of (dConsL (dO (dCall F_plain_bob (dConsL (dO (dC (.int 6))) dNilL))) dNilL)) (dC (.str "hunter"))) (dAndV (dBin eqD (dCall F_kind_of (dConsL (dO (dCall F_plain_hunt (dConsL (dO (dC (.int 5))) dNilL))) dNilL)) (dC (.str "hunter"))) (dBin eqD (dCall F_kind_of (dConsL (dO (dCall F_with_cover (dConsL (dO (dCall F_plain_bob (dConsL (dO (dC (.int 5))) dNilL))) dNilL))) dNilL)) (dC (.str "little")))))) sNil)))
noncomputable def F_law : Fn := fnDen ce_law.A 1 12 m_law
theorem c_law : cSs 200 ce_law (defBody (top 36)) = some m_law := rfl
theorem k_law : DefOk ce_law ["script"] "law" (defArgs (top 36)) := ⟨⟨rfl, rfl, rfl, by decide +kernel, rfl, by decide +kernel, by decide +kernel⟩, by decide, fun _ _ _ _ _ _ _ _ us hl => match us, hl with | [_], _ => rfl⟩
end Lk05

set_option Elab.async false
set_option linter.all false
set_option maxRecDepth 100000
set_option maxHeartbeats 0
namespace Lk05
open PySem PySem.Spec L2 VI
open PyProof.Rows hiding St
def names0 : List PySem.Str := ["rounds", "times", "place_of", "change_row", "after", "rows_from", "last_row", "lead_head", "hunt_bells", "path_of", "line_of", "place_bells", "longest_stay", "kind_of", "plain_hunt", "plain_bob", "with_cover", "_law_draws", "_law_box", "_law_next", "_law_rounds", "_law_all_changes", "_law_change", "_law_after", "_law_rows", "_law_method", "_law_times", "_law_order", "_law_places", "_law_stay", "_law_kind"]
def names : List PySem.Str := names0
/-! ### the head -/
def dd__law_draws : He.DefD := ⟨("_law_draws", none), "_law_draws", "_law_draws", defArgs (top 22), defBody (top 22), defScope (top 22), [], []⟩
def dd__law_box : He.DefD := ⟨("_law_box", none), "_law_box", "_law_box", defArgs (top 23), defBody (top 23), defScope (top 23), [], []⟩
def dd__law_after : He.DefD := ⟨("_law_after", none), "_law_after", "_law_after", defArgs (top 28), defBody (top 28), defScope (top 28), [], []⟩
def dd__law_rows : He.DefD := ⟨("_law_rows", none), "_law_rows", "_law_rows", defArgs (top 29), defBody (top 29), defScope (top 29), [], []⟩
def dd_place_of : He.DefD := ⟨("place_of", none), "place_of", "place_of", defArgs (top 3), defBody (top 3), defScope (top 3), [], []⟩
def dd_times : He.DefD := ⟨("times", none), "times", "times", defArgs (top 2), defBody (top 2), defScope (top 2), [], []⟩
def dd_rounds : He.DefD := ⟨("rounds", none), "rounds", "rounds", defArgs (top 1), defBody (top 1), defScope (top 1), [], []⟩
def dd_change_row : He.DefD := ⟨("change_row", none), "change_row", "change_row", defArgs (top 5), defBody (top 5), defScope (top 5), [], []⟩
def dd_after : He.DefD := ⟨("after", none), "after", "after", defArgs (top 6), defBody (top 6), defScope (top 6), [], []⟩
def dd_rows_from : He.DefD := ⟨("rows_from", none), "rows_from", "rows_from", defArgs (top 7), defBody (top 7), defScope (top 7), [], []⟩
def dd_path_of : He.DefD := ⟨("path_of", none), "path_of", "path_of", defArgs (top 12), defBody (top 12), defScope (top 12), [], []⟩
def dd__law_rounds : He.DefD := ⟨("_law_rounds", none), "_law_rounds", "_law_rounds", defArgs (top 25), defBody (top 25), defScope (top 25), [], []⟩
def dd__law_places : He.DefD := ⟨("_law_places", none), "_law_places", "_law_places", defArgs (top 33), defBody (top 33), defScope (top 33), [], []⟩
def dd_line_of : He.DefD := ⟨("line_of", none), "line_of", "line_of", defArgs (top 13), defBody (top 13), defScope (top 13), [], []⟩
def dd_longest_stay : He.DefD := ⟨("longest_stay", none), "longest_stay", "longest_stay", defArgs (top 15), defBody (top 15), defScope (top 15), [], []⟩
def dd__law_next : He.DefD := ⟨("_law_next", none), "_law_next", "_law_next", defArgs (top 24), defBody (top 24), defScope (top 24), [], []⟩
def dd_with_cover : He.DefD := ⟨("with_cover", none), "with_cover", "with_cover", defArgs (top 20), defBody (top 20), defScope (top 20), [], []⟩
def dd_last_row : He.DefD := ⟨("last_row", none), "last_row", "last_row", defArgs (top 8), defBody (top 8), defScope (top 8), [], []⟩
def dd_lead_head : He.DefD := ⟨("lead_head", none), "lead_head", "lead_head", defArgs (top 10), defBody (top 10), defScope (top 10), [], []⟩
def dd_hunt_bells : He.DefD := ⟨("hunt_bells", none), "hunt_bells", "hunt_bells", defArgs (top 11), defBody (top 11), defScope (top 11), [], []⟩
def dd_kind_of : He.DefD := ⟨("kind_of", none), "kind_of", "kind_of", defArgs (top 16), defBody (top 16), defScope (top 16), [], []⟩
def dd__law_all_changes : He.DefD := ⟨("_law_all_changes", none), "_law_all_changes", "_law_all_changes", defArgs (top 26), defBody (top 26), defScope (top 26), [], []⟩
def dd__law_change : He.DefD := ⟨("_law_change", none), "_law_change", "_law_change", defArgs (top 27), defBody (top 27), defScope (top 27), [], []⟩
def dd__law_method : He.DefD := ⟨("_law_method", none), "_law_method", "_law_method", defArgs (top 30), defBody (top 30), defScope (top 30), [], []⟩
def dd_plain_hunt : He.DefD := ⟨("plain_hunt", none), "plain_hunt", "plain_hunt", defArgs (top 18), defBody (top 18), defScope (top 18), [], []⟩
def dd_plain_bob : He.DefD := ⟨("plain_bob", none), "plain_bob", "plain_bob", defArgs (top 19), defBody (top 19), defScope (top 19), [], []⟩
def dd_place_bells : He.DefD := ⟨("place_bells", none), "place_bells", "place_bells", defArgs (top 14), defBody (top 14), defScope (top 14), [], []⟩
def dd__law_times : He.DefD := ⟨("_law_times", none), "_law_times", "_law_times", defArgs (top 31), defBody (top 31), defScope (top 31), [], []⟩
def dd__law_order : He.DefD := ⟨("_law_order", none), "_law_order", "_law_order", defArgs (top 32), defBody (top 32), defScope (top 32), [], []⟩
def dd__law_stay : He.DefD := ⟨("_law_stay", none), "_law_stay", "_law_stay", defArgs (top 34), defBody (top 34), defScope (top 34), [], []⟩
def dd__law_kind : He.DefD := ⟨("_law_kind", none), "_law_kind", "_law_kind", defArgs (top 35), defBody (top 35), defScope (top 35), [], []⟩
def dd_law : He.DefD := ⟨("law", none), "law", "law", defArgs (top 36), defBody (top 36), defScope (top 36), [], []⟩
def fn : List He.DefD := [dd__law_draws, dd__law_box, dd__law_after, dd__law_rows, dd_place_of, dd_times, dd_rounds, dd_change_row, dd_after, dd_rows_from, dd_path_of, dd__law_rounds, dd__law_places, dd_line_of, dd_longest_stay, dd__law_next, dd_with_cover, dd_last_row, dd_lead_head, dd_hunt_bells, dd_kind_of, dd__law_all_changes, dd__law_change, dd__law_method, dd_plain_hunt, dd_plain_bob, dd_place_bells, dd__law_times, dd__law_order, dd__law_stay, dd__law_kind, dd_law]
def fa : List He.Fa := [.glo "_law_draws", .glo "_law_box", .glo "_law_after", .glo "_law_rows", .glo "place_of", .glo "times", .glo "rounds", .glo "change_row", .glo "after", .glo "rows_from", .glo "path_of", .glo "_law_rounds", .glo "_law_places", .glo "line_of", .glo "longest_stay", .glo "_law_next", .glo "with_cover", .glo "last_row", .glo "lead_head", .glo "hunt_bells", .glo "kind_of", .glo "_law_all_changes", .glo "_law_change", .glo "_law_method", .glo "plain_hunt", .glo "plain_bob", .glo "place_bells", .glo "_law_times", .glo "_law_order", .glo "_law_stay", .glo "_law_kind", .glo "law", .free "range", .free "int", .free "len", .free "list", .free "tuple", .free "set", .free "max", .free "sorted", .free "isinstance", .free "bool"]
abbrev R : PySem.W.OpenRow := PySem.W.OpenLaw.row PySem.Challenge.rw_truepeals_k05_what_a_bell_does_in_a_meth
abbrev hk : PySem.W.Hook := He.hookD 4 fa fn
def ob (s : PySem.W.SharedT) : He.AlD := He.obsDG 4 fa fn (HandSHeadRun.getT s)
theorem ob_eq (s : PySem.W.SharedT) : ob s = hk.obs s.abs := He.obsDG_eq (HandSHeadRun.getT_eq s)
theorem run (w : World) : HandSHeadRun.RunEq R (PySem.W.view R.prog [36]) hk ob 4000 names w := by
  intro os
  kernel_rfl
section
variable {P : Program} {w : World} {K : PySem.W.Frag} {mg : Str → Option Value} {h base : Heap}
theorem l__law_draws (X : K.In h) (G : h.Ns mainGlobals mg) (c : He.SaysD fa fn K) : Leans P w K mg base 0 ce__law_draws := by
  refine ⟨?_, ?_, ?_⟩
  · intro p hp
    cases hp
  · intro p hp
    cases hp
  · intro p hp
    simp only [ce__law_draws, List.mem_cons, List.not_mem_nil, or_false] at hp
    rcases hp with rfl | rfl
    · exact He.free_ok X G (c.fact 32 (f := .free "range") rfl)
    · exact He.free_ok X G (c.fact 33 (f := .free "int") rfl)
theorem w__law_draws (X : K.In h) (G : h.Ns mainGlobals mg) (c : He.SaysD fa fn K) : CalW P w K mg base 1 "_law_draws" F__law_draws := by
  obtain ⟨fd, F⟩ := c.def_ 0 (d := dd__law_draws) rfl
  exact VI.FunD.calW (k := 0) F k__law_draws (l__law_draws X G c) c__law_draws (He.glo_ok X G (c.fact 0 (f := .glo "_law_draws") rfl))
theorem l__law_box (X : K.In h) (G : h.Ns mainGlobals mg) (c : He.SaysD fa fn K) : Leans P w K mg base 1 ce__law_box := by
  refine ⟨?_, ?_, ?_⟩
  · intro p hp
    simp only [ce__law_box, List.mem_cons, List.not_mem_nil, or_false] at hp
    rcases hp with rfl
    · exact (w__law_draws X G c).mono (by decide)
  · intro p hp
    cases hp
  · intro p hp
    simp only [ce__law_box, List.mem_cons, List.not_mem_nil, or_false] at hp
    rcases hp with rfl
    · exact He.free_ok X G (c.fact 34 (f := .free "len") rfl)
theorem w__law_box (X : K.In h) (G : h.Ns mainGlobals mg) (c : He.SaysD fa fn K) : CalW P w K mg base 2 "_law_box" F__law_box := by
  obtain ⟨fd, F⟩ := c.def_ 1 (d := dd__law_box) rfl
  exact VI.FunD.calW (k := 1) F k__law_box (l__law_box X G c) c__law_box (He.glo_ok X G (c.fact 1 (f := .glo "_law_box") rfl))
theorem l__law_after (X : K.In h) (G : h.Ns mainGlobals mg) (c : He.SaysD fa fn K) : Leans P w K mg base 0 ce__law_after := by
  refine ⟨?_, ?_, ?_⟩
  · intro p hp
    cases hp
  · intro p hp
    cases hp
  · intro p hp
    simp only [ce__law_after, List.mem_cons, List.not_mem_nil, or_false] at hp
    rcases hp with rfl | rfl | rfl | rfl
    · exact He.free_ok X G (c.fact 35 (f := .free "list") rfl)
    · exact He.free_ok X G (c.fact 32 (f := .free "range") rfl)
    · exact He.free_ok X G (c.fact 34 (f := .free "len") rfl)
    · exact He.free_ok X G (c.fact 36 (f := .free "tuple") rfl)
theorem w__law_after (X : K.In h) (G : h.Ns mainGlobals mg) (c : He.SaysD fa fn K) : CalW P w K mg base 1 "_law_after" F__law_after := by
  obtain ⟨fd, F⟩ := c.def_ 2 (d := dd__law_after) rfl
  exact VI.FunD.calW (k := 0) F k__law_after (l__law_after X G c) c__law_after (He.glo_ok X G (c.fact 2 (f := .glo "_law_after") rfl))
theorem l__law_rows (X : K.In h) (G : h.Ns mainGlobals mg) (c : He.SaysD fa fn K) : Leans P w K mg base 1 ce__law_rows := by
  refine ⟨?_, ?_, ?_⟩
  · intro p hp
    simp only [ce__law_rows, List.mem_cons, List.not_mem_nil, or_false] at hp
    rcases hp with rfl
    · exact (w__law_after X G c).mono (by decide)
  · intro p hp
    cases hp
  · intro p hp
    cases hp
theorem w__law_rows (X : K.In h) (G : h.Ns mainGlobals mg) (c : He.SaysD fa fn K) : CalW P w K mg base 2 "_law_rows" F__law_rows := by
  obtain ⟨fd, F⟩ := c.def_ 3 (d := dd__law_rows) rfl
  exact VI.FunD.calW (k := 1) F k__law_rows (l__law_rows X G c) c__law_rows (He.glo_ok X G (c.fact 3 (f := .glo "_law_rows") rfl))
theorem l_place_of (X : K.In h) (G : h.Ns mainGlobals mg) (c : He.SaysD fa fn K) : Leans P w K mg base 0 ce_place_of := by
  refine ⟨?_, ?_, ?_⟩
  · intro p hp
    cases hp
  · intro p hp
    cases hp
  · intro p hp
    cases hp
theorem w_place_of (X : K.In h) (G : h.Ns mainGlobals mg) (c : He.SaysD fa fn K) : CalW P w K mg base 1 "place_of" F_place_of := by
  obtain ⟨fd, F⟩ := c.def_ 4 (d := dd_place_of) rfl
  exact VI.FunD.calW (k := 0) F k_place_of (l_place_of X G c) c_place_of (He.glo_ok X G (c.fact 4 (f := .glo "place_of") rfl))
theorem l_times (X : K.In h) (G : h.Ns mainGlobals mg) (c : He.SaysD fa fn K) : Leans P w K mg base 0 ce_times := by
  refine ⟨?_, ?_, ?_⟩
  · intro p hp
    cases hp
  · intro p hp
    cases hp
  · intro p hp
    simp only [ce_times, List.mem_cons, List.not_mem_nil, or_false] at hp
    rcases hp with rfl
    · exact He.free_ok X G (c.fact 36 (f := .free "tuple") rfl)
theorem w_times (X : K.In h) (G : h.Ns mainGlobals mg) (c : He.SaysD fa fn K) : CalW P w K mg base 1 "times" F_times := by
  obtain ⟨fd, F⟩ := c.def_ 5 (d := dd_times) rfl
  exact VI.FunD.calW (k := 0) F k_times (l_times X G c) c_times (He.glo_ok X G (c.fact 5 (f := .glo "times") rfl))
theorem l_rounds (X : K.In h) (G : h.Ns mainGlobals mg) (c : He.SaysD fa fn K) : Leans P w K mg base 0 ce_rounds := by
  refine ⟨?_, ?_, ?_⟩
  · intro p hp
    cases hp
  · intro p hp
    cases hp
  · intro p hp
    simp only [ce_rounds, List.mem_cons, List.not_mem_nil, or_false] at hp
    rcases hp with rfl | rfl
    · exact He.free_ok X G (c.fact 36 (f := .free "tuple") rfl)
    · exact He.free_ok X G (c.fact 32 (f := .free "range") rfl)
theorem w_rounds (X : K.In h) (G : h.Ns mainGlobals mg) (c : He.SaysD fa fn K) : CalW P w K mg base 1 "rounds" F_rounds := by
  obtain ⟨fd, F⟩ := c.def_ 6 (d := dd_rounds) rfl
  exact VI.FunD.calW (k := 0) F k_rounds (l_rounds X G c) c_rounds (He.glo_ok X G (c.fact 6 (f := .glo "rounds") rfl))
theorem l_change_row (X : K.In h) (G : h.Ns mainGlobals mg) (c : He.SaysD fa fn K) : Leans P w K mg base 1 ce_change_row := by
  refine ⟨?_, ?_, ?_⟩
  · intro p hp
    simp only [ce_change_row, List.mem_cons, List.not_mem_nil, or_false] at hp
    rcases hp with rfl
    · exact (w_rounds X G c).mono (by decide)
  · intro p hp
    cases hp
  · intro p hp
    simp only [ce_change_row, List.mem_cons, List.not_mem_nil, or_false] at hp
    rcases hp with rfl | rfl
    · exact He.free_ok X G (c.fact 35 (f := .free "list") rfl)
    · exact He.free_ok X G (c.fact 36 (f := .free "tuple") rfl)
theorem w_change_row (X : K.In h) (G : h.Ns mainGlobals mg) (c : He.SaysD fa fn K) : CalW P w K mg base 2 "change_row" F_change_row := by
  obtain ⟨fd, F⟩ := c.def_ 7 (d := dd_change_row) rfl
  exact VI.FunD.calW (k := 1) F k_change_row (l_change_row X G c) c_change_row (He.glo_ok X G (c.fact 7 (f := .glo "change_row") rfl))
theorem l_after (X : K.In h) (G : h.Ns mainGlobals mg) (c : He.SaysD fa fn K) : Leans P w K mg base 2 ce_after := by
  refine ⟨?_, ?_, ?_⟩
  · intro p hp
    simp only [ce_after, List.mem_cons, List.not_mem_nil, or_false] at hp
    rcases hp with rfl | rfl
    · exact (w_times X G c).mono (by decide)
    · exact (w_change_row X G c).mono (by decide)
  · intro p hp
    cases hp
  · intro p hp
    simp only [ce_after, List.mem_cons, List.not_mem_nil, or_false] at hp
    rcases hp with rfl
    · exact He.free_ok X G (c.fact 34 (f := .free "len") rfl)
theorem w_after (X : K.In h) (G : h.Ns mainGlobals mg) (c : He.SaysD fa fn K) : CalW P w K mg base 3 "after" F_after := by
  obtain ⟨fd, F⟩ := c.def_ 8 (d := dd_after) rfl
  exact VI.FunD.calW (k := 2) F k_after (l_after X G c) c_after (He.glo_ok X G (c.fact 8 (f := .glo "after") rfl))
theorem l_rows_from (X : K.In h) (G : h.Ns mainGlobals mg) (c : He.SaysD fa fn K) : Leans P w K mg base 3 ce_rows_from := by
  refine ⟨?_, ?_, ?_⟩
  · intro p hp
    simp only [ce_rows_from, List.mem_cons, List.not_mem_nil, or_false] at hp
    rcases hp with rfl
    · exact (w_after X G c).mono (by decide)
  · intro p hp
    cases hp
  · intro p hp
    cases hp
theorem w_rows_from (X : K.In h) (G : h.Ns mainGlobals mg) (c : He.SaysD fa fn K) : CalW P w K mg base 4 "rows_from" F_rows_from := by
  obtain ⟨fd, F⟩ := c.def_ 9 (d := dd_rows_from) rfl
  exact VI.FunD.calW (k := 3) F k_rows_from (l_rows_from X G c) c_rows_from (He.glo_ok X G (c.fact 9 (f := .glo "rows_from") rfl))
theorem l_path_of (X : K.In h) (G : h.Ns mainGlobals mg) (c : He.SaysD fa fn K) : Leans P w K mg base 4 ce_path_of := by
  refine ⟨?_, ?_, ?_⟩
  · intro p hp
    simp only [ce_path_of, List.mem_cons, List.not_mem_nil, or_false] at hp
    rcases hp with rfl | rfl | rfl
    · exact (w_rows_from X G c).mono (by decide)
    · exact (w_rounds X G c).mono (by decide)
    · exact (w_place_of X G c).mono (by decide)
  · intro p hp
    cases hp
  · intro p hp
    cases hp
theorem w_path_of (X : K.In h) (G : h.Ns mainGlobals mg) (c : He.SaysD fa fn K) : CalW P w K mg base 5 "path_of" F_path_of := by
  obtain ⟨fd, F⟩ := c.def_ 10 (d := dd_path_of) rfl
  exact VI.FunD.calW (k := 4) F k_path_of (l_path_of X G c) c_path_of (He.glo_ok X G (c.fact 10 (f := .glo "path_of") rfl))
theorem l__law_rounds (X : K.In h) (G : h.Ns mainGlobals mg) (c : He.SaysD fa fn K) : Leans P w K mg base 0 ce__law_rounds := by
  refine ⟨?_, ?_, ?_⟩
  · intro p hp
    cases hp
  · intro p hp
    cases hp
  · intro p hp
    simp only [ce__law_rounds, List.mem_cons, List.not_mem_nil, or_false] at hp
    rcases hp with rfl | rfl
    · exact He.free_ok X G (c.fact 36 (f := .free "tuple") rfl)
    · exact He.free_ok X G (c.fact 32 (f := .free "range") rfl)
theorem w__law_rounds (X : K.In h) (G : h.Ns mainGlobals mg) (c : He.SaysD fa fn K) : CalW P w K mg base 1 "_law_rounds" F__law_rounds := by
  obtain ⟨fd, F⟩ := c.def_ 11 (d := dd__law_rounds) rfl
  exact VI.FunD.calW (k := 0) F k__law_rounds (l__law_rounds X G c) c__law_rounds (He.glo_ok X G (c.fact 11 (f := .glo "_law_rounds") rfl))
theorem l__law_places (X : K.In h) (G : h.Ns mainGlobals mg) (c : He.SaysD fa fn K) : Leans P w K mg base 2 ce__law_places := by
  refine ⟨?_, ?_, ?_⟩
  · intro p hp
    simp only [ce__law_places, List.mem_cons, List.not_mem_nil, or_false] at hp
    rcases hp with rfl | rfl
    · exact (w__law_rows X G c).mono (by decide)
    · exact (w__law_rounds X G c).mono (by decide)
  · intro p hp
    cases hp
  · intro p hp
    simp only [ce__law_places, List.mem_cons, List.not_mem_nil, or_false] at hp
    rcases hp with rfl
    · exact He.free_ok X G (c.fact 32 (f := .free "range") rfl)
theorem w__law_places (X : K.In h) (G : h.Ns mainGlobals mg) (c : He.SaysD fa fn K) : CalW P w K mg base 3 "_law_places" F__law_places := by
  obtain ⟨fd, F⟩ := c.def_ 12 (d := dd__law_places) rfl
  exact VI.FunD.calW (k := 2) F k__law_places (l__law_places X G c) c__law_places (He.glo_ok X G (c.fact 12 (f := .glo "_law_places") rfl))
theorem l_line_of (X : K.In h) (G : h.Ns mainGlobals mg) (c : He.SaysD fa fn K) : Leans P w K mg base 5 ce_line_of := by
  refine ⟨?_, ?_, ?_⟩
  · intro p hp
    simp only [ce_line_of, List.mem_cons, List.not_mem_nil, or_false] at hp
    rcases hp with rfl
    · exact (w_path_of X G c).mono (by decide)
  · intro p hp
    cases hp
  · intro p hp
    cases hp
theorem w_line_of (X : K.In h) (G : h.Ns mainGlobals mg) (c : He.SaysD fa fn K) : CalW P w K mg base 6 "line_of" F_line_of := by
  obtain ⟨fd, F⟩ := c.def_ 13 (d := dd_line_of) rfl
  exact VI.FunD.calW (k := 5) F k_line_of (l_line_of X G c) c_line_of (He.glo_ok X G (c.fact 13 (f := .glo "line_of") rfl))
theorem l_longest_stay (X : K.In h) (G : h.Ns mainGlobals mg) (c : He.SaysD fa fn K) : Leans P w K mg base 6 ce_longest_stay := by
  refine ⟨?_, ?_, ?_⟩
  · intro p hp
    simp only [ce_longest_stay, List.mem_cons, List.not_mem_nil, or_false] at hp
    rcases hp with rfl | rfl
    · exact (w_rounds X G c).mono (by decide)
    · exact (w_line_of X G c).mono (by decide)
  · intro p hp
    cases hp
  · intro p hp
    simp only [ce_longest_stay, List.mem_cons, List.not_mem_nil, or_false] at hp
    rcases hp with rfl | rfl | rfl | rfl
    · exact He.free_ok X G (c.fact 34 (f := .free "len") rfl)
    · exact He.free_ok X G (c.fact 37 (f := .free "set") rfl)
    · exact He.free_ok X G (c.fact 32 (f := .free "range") rfl)
    · exact He.free_ok X G (c.fact 38 (f := .free "max") rfl)
theorem w_longest_stay (X : K.In h) (G : h.Ns mainGlobals mg) (c : He.SaysD fa fn K) : CalW P w K mg base 7 "longest_stay" F_longest_stay := by
  obtain ⟨fd, F⟩ := c.def_ 14 (d := dd_longest_stay) rfl
  exact VI.FunD.calW (k := 6) F k_longest_stay (l_longest_stay X G c) c_longest_stay (He.glo_ok X G (c.fact 14 (f := .glo "longest_stay") rfl))
theorem l__law_next (X : K.In h) (G : h.Ns mainGlobals mg) (c : He.SaysD fa fn K) : Leans P w K mg base 0 ce__law_next := by
  refine ⟨?_, ?_, ?_⟩
  · intro p hp
    cases hp
  · intro p hp
    cases hp
  · intro p hp
    simp only [ce__law_next, List.mem_cons, List.not_mem_nil, or_false] at hp
    rcases hp with rfl | rfl
    · exact He.free_ok X G (c.fact 34 (f := .free "len") rfl)
    · exact He.free_ok X G (c.fact 33 (f := .free "int") rfl)
theorem w__law_next (X : K.In h) (G : h.Ns mainGlobals mg) (c : He.SaysD fa fn K) : CalW P w K mg base 1 "_law_next" F__law_next := by
  obtain ⟨fd, F⟩ := c.def_ 15 (d := dd__law_next) rfl
  exact VI.FunD.calW (k := 0) F k__law_next (l__law_next X G c) c__law_next (He.glo_ok X G (c.fact 15 (f := .glo "_law_next") rfl))
theorem l_with_cover (X : K.In h) (G : h.Ns mainGlobals mg) (c : He.SaysD fa fn K) : Leans P w K mg base 0 ce_with_cover := by
  refine ⟨?_, ?_, ?_⟩
  · intro p hp
    cases hp
  · intro p hp
    cases hp
  · intro p hp
    simp only [ce_with_cover, List.mem_cons, List.not_mem_nil, or_false] at hp
    rcases hp with rfl
    · exact He.free_ok X G (c.fact 36 (f := .free "tuple") rfl)
theorem w_with_cover (X : K.In h) (G : h.Ns mainGlobals mg) (c : He.SaysD fa fn K) : CalW P w K mg base 1 "with_cover" F_with_cover := by
  obtain ⟨fd, F⟩ := c.def_ 16 (d := dd_with_cover) rfl
  exact VI.FunD.calW (k := 0) F k_with_cover (l_with_cover X G c) c_with_cover (He.glo_ok X G (c.fact 16 (f := .glo "with_cover") rfl))
theorem l_last_row (X : K.In h) (G : h.Ns mainGlobals mg) (c : He.SaysD fa fn K) : Leans P w K mg base 3 ce_last_row := by
  refine ⟨?_, ?_, ?_⟩
  · intro p hp
    simp only [ce_last_row, List.mem_cons, List.not_mem_nil, or_false] at hp
    rcases hp with rfl
    · exact (w_after X G c).mono (by decide)
  · intro p hp
    cases hp
  · intro p hp
    cases hp
theorem w_last_row (X : K.In h) (G : h.Ns mainGlobals mg) (c : He.SaysD fa fn K) : CalW P w K mg base 4 "last_row" F_last_row := by
  obtain ⟨fd, F⟩ := c.def_ 17 (d := dd_last_row) rfl
  exact VI.FunD.calW (k := 3) F k_last_row (l_last_row X G c) c_last_row (He.glo_ok X G (c.fact 17 (f := .glo "last_row") rfl))
theorem l_lead_head (X : K.In h) (G : h.Ns mainGlobals mg) (c : He.SaysD fa fn K) : Leans P w K mg base 4 ce_lead_head := by
  refine ⟨?_, ?_, ?_⟩
  · intro p hp
    simp only [ce_lead_head, List.mem_cons, List.not_mem_nil, or_false] at hp
    rcases hp with rfl | rfl
    · exact (w_last_row X G c).mono (by decide)
    · exact (w_rounds X G c).mono (by decide)
  · intro p hp
    cases hp
  · intro p hp
    cases hp
theorem w_lead_head (X : K.In h) (G : h.Ns mainGlobals mg) (c : He.SaysD fa fn K) : CalW P w K mg base 5 "lead_head" F_lead_head := by
  obtain ⟨fd, F⟩ := c.def_ 18 (d := dd_lead_head) rfl
  exact VI.FunD.calW (k := 4) F k_lead_head (l_lead_head X G c) c_lead_head (He.glo_ok X G (c.fact 18 (f := .glo "lead_head") rfl))
theorem l_hunt_bells (X : K.In h) (G : h.Ns mainGlobals mg) (c : He.SaysD fa fn K) : Leans P w K mg base 5 ce_hunt_bells := by
  refine ⟨?_, ?_, ?_⟩
  · intro p hp
    simp only [ce_hunt_bells, List.mem_cons, List.not_mem_nil, or_false] at hp
    rcases hp with rfl | rfl
    · exact (w_lead_head X G c).mono (by decide)
    · exact (w_rounds X G c).mono (by decide)
  · intro p hp
    cases hp
  · intro p hp
    cases hp
theorem w_hunt_bells (X : K.In h) (G : h.Ns mainGlobals mg) (c : He.SaysD fa fn K) : CalW P w K mg base 6 "hunt_bells" F_hunt_bells := by
  obtain ⟨fd, F⟩ := c.def_ 19 (d := dd_hunt_bells) rfl
  exact VI.FunD.calW (k := 5) F k_hunt_bells (l_hunt_bells X G c) c_hunt_bells (He.glo_ok X G (c.fact 19 (f := .glo "hunt_bells") rfl))
theorem l_kind_of (X : K.In h) (G : h.Ns mainGlobals mg) (c : He.SaysD fa fn K) : Leans P w K mg base 6 ce_kind_of := by
  refine ⟨?_, ?_, ?_⟩
  · intro p hp
    simp only [ce_kind_of, List.mem_cons, List.not_mem_nil, or_false] at hp
    rcases hp with rfl | rfl
    · exact (w_hunt_bells X G c).mono (by decide)
    · exact (w_path_of X G c).mono (by decide)
  · intro p hp
    cases hp
  · intro p hp
    simp only [ce_kind_of, List.mem_cons, List.not_mem_nil, or_false] at hp
    rcases hp with rfl | rfl | rfl
    · exact He.free_ok X G (c.fact 35 (f := .free "list") rfl)
    · exact He.free_ok X G (c.fact 32 (f := .free "range") rfl)
    · exact He.free_ok X G (c.fact 38 (f := .free "max") rfl)
theorem w_kind_of (X : K.In h) (G : h.Ns mainGlobals mg) (c : He.SaysD fa fn K) : CalW P w K mg base 7 "kind_of" F_kind_of := by
  obtain ⟨fd, F⟩ := c.def_ 20 (d := dd_kind_of) rfl
  exact VI.FunD.calW (k := 6) F k_kind_of (l_kind_of X G c) c_kind_of (He.glo_ok X G (c.fact 20 (f := .glo "kind_of") rfl))
theorem l__law_all_changes (X : K.In h) (G : h.Ns mainGlobals mg) (c : He.SaysD fa fn K) : Leans P w K mg base 0 ce__law_all_changes := by
  refine ⟨?_, ?_, ?_⟩
  · intro p hp
    cases hp
  · intro p hp
    cases hp
  · intro p hp
    simp only [ce__law_all_changes, List.mem_cons, List.not_mem_nil, or_false] at hp
    rcases hp with rfl | rfl
    · exact He.free_ok X G (c.fact 32 (f := .free "range") rfl)
    · exact He.free_ok X G (c.fact 39 (f := .free "sorted") rfl)
theorem w__law_all_changes (X : K.In h) (G : h.Ns mainGlobals mg) (c : He.SaysD fa fn K) : CalW P w K mg base 1 "_law_all_changes" F__law_all_changes := by
  obtain ⟨fd, F⟩ := c.def_ 21 (d := dd__law_all_changes) rfl
  exact VI.FunD.calW (k := 0) F k__law_all_changes (l__law_all_changes X G c) c__law_all_changes (He.glo_ok X G (c.fact 21 (f := .glo "_law_all_changes") rfl))
theorem l__law_change (X : K.In h) (G : h.Ns mainGlobals mg) (c : He.SaysD fa fn K) : Leans P w K mg base 1 ce__law_change := by
  refine ⟨?_, ?_, ?_⟩
  · intro p hp
    simp only [ce__law_change, List.mem_cons, List.not_mem_nil, or_false] at hp
    rcases hp with rfl | rfl
    · exact (w__law_all_changes X G c).mono (by decide)
    · exact (w__law_next X G c).mono (by decide)
  · intro p hp
    cases hp
  · intro p hp
    simp only [ce__law_change, List.mem_cons, List.not_mem_nil, or_false] at hp
    rcases hp with rfl
    · exact He.free_ok X G (c.fact 34 (f := .free "len") rfl)
theorem w__law_change (X : K.In h) (G : h.Ns mainGlobals mg) (c : He.SaysD fa fn K) : CalW P w K mg base 2 "_law_change" F__law_change := by
  obtain ⟨fd, F⟩ := c.def_ 22 (d := dd__law_change) rfl
  exact VI.FunD.calW (k := 1) F k__law_change (l__law_change X G c) c__law_change (He.glo_ok X G (c.fact 22 (f := .glo "_law_change") rfl))
theorem l__law_method (X : K.In h) (G : h.Ns mainGlobals mg) (c : He.SaysD fa fn K) : Leans P w K mg base 2 ce__law_method := by
  refine ⟨?_, ?_, ?_⟩
  · intro p hp
    simp only [ce__law_method, List.mem_cons, List.not_mem_nil, or_false] at hp
    rcases hp with rfl | rfl
    · exact (w__law_next X G c).mono (by decide)
    · exact (w__law_change X G c).mono (by decide)
  · intro p hp
    cases hp
  · intro p hp
    simp only [ce__law_method, List.mem_cons, List.not_mem_nil, or_false] at hp
    rcases hp with rfl | rfl
    · exact He.free_ok X G (c.fact 36 (f := .free "tuple") rfl)
    · exact He.free_ok X G (c.fact 32 (f := .free "range") rfl)
theorem w__law_method (X : K.In h) (G : h.Ns mainGlobals mg) (c : He.SaysD fa fn K) : CalW P w K mg base 3 "_law_method" F__law_method := by
  obtain ⟨fd, F⟩ := c.def_ 23 (d := dd__law_method) rfl
  exact VI.FunD.calW (k := 2) F k__law_method (l__law_method X G c) c__law_method (He.glo_ok X G (c.fact 23 (f := .glo "_law_method") rfl))
theorem l_plain_hunt (X : K.In h) (G : h.Ns mainGlobals mg) (c : He.SaysD fa fn K) : Leans P w K mg base 0 ce_plain_hunt := by
  refine ⟨?_, ?_, ?_⟩
  · intro p hp
    cases hp
  · intro p hp
    cases hp
  · intro p hp
    cases hp
theorem w_plain_hunt (X : K.In h) (G : h.Ns mainGlobals mg) (c : He.SaysD fa fn K) : CalW P w K mg base 1 "plain_hunt" F_plain_hunt := by
  obtain ⟨fd, F⟩ := c.def_ 24 (d := dd_plain_hunt) rfl
  exact VI.FunD.calW (k := 0) F k_plain_hunt (l_plain_hunt X G c) c_plain_hunt (He.glo_ok X G (c.fact 24 (f := .glo "plain_hunt") rfl))
theorem l_plain_bob (X : K.In h) (G : h.Ns mainGlobals mg) (c : He.SaysD fa fn K) : Leans P w K mg base 1 ce_plain_bob := by
  refine ⟨?_, ?_, ?_⟩
  · intro p hp
    simp only [ce_plain_bob, List.mem_cons, List.not_mem_nil, or_false] at hp
    rcases hp with rfl
    · exact (w_plain_hunt X G c).mono (by decide)
  · intro p hp
    cases hp
  · intro p hp
    cases hp
theorem w_plain_bob (X : K.In h) (G : h.Ns mainGlobals mg) (c : He.SaysD fa fn K) : CalW P w K mg base 2 "plain_bob" F_plain_bob := by
  obtain ⟨fd, F⟩ := c.def_ 25 (d := dd_plain_bob) rfl
  exact VI.FunD.calW (k := 1) F k_plain_bob (l_plain_bob X G c) c_plain_bob (He.glo_ok X G (c.fact 25 (f := .glo "plain_bob") rfl))
theorem l_place_bells (X : K.In h) (G : h.Ns mainGlobals mg) (c : He.SaysD fa fn K) : Leans P w K mg base 5 ce_place_bells := by
  refine ⟨?_, ?_, ?_⟩
  · intro p hp
    simp only [ce_place_bells, List.mem_cons, List.not_mem_nil, or_false] at hp
    rcases hp with rfl
    · exact (w_path_of X G c).mono (by decide)
  · intro p hp
    cases hp
  · intro p hp
    cases hp
theorem w_place_bells (X : K.In h) (G : h.Ns mainGlobals mg) (c : He.SaysD fa fn K) : CalW P w K mg base 6 "place_bells" F_place_bells := by
  obtain ⟨fd, F⟩ := c.def_ 26 (d := dd_place_bells) rfl
  exact VI.FunD.calW (k := 5) F k_place_bells (l_place_bells X G c) c_place_bells (He.glo_ok X G (c.fact 26 (f := .glo "place_bells") rfl))
theorem l__law_times (X : K.In h) (G : h.Ns mainGlobals mg) (c : He.SaysD fa fn K) : Leans P w K mg base 0 ce__law_times := by
  refine ⟨?_, ?_, ?_⟩
  · intro p hp
    cases hp
  · intro p hp
    cases hp
  · intro p hp
    simp only [ce__law_times, List.mem_cons, List.not_mem_nil, or_false] at hp
    rcases hp with rfl
    · exact He.free_ok X G (c.fact 36 (f := .free "tuple") rfl)
theorem w__law_times (X : K.In h) (G : h.Ns mainGlobals mg) (c : He.SaysD fa fn K) : CalW P w K mg base 1 "_law_times" F__law_times := by
  obtain ⟨fd, F⟩ := c.def_ 27 (d := dd__law_times) rfl
  exact VI.FunD.calW (k := 0) F k__law_times (l__law_times X G c) c__law_times (He.glo_ok X G (c.fact 27 (f := .glo "_law_times") rfl))
theorem l__law_order (X : K.In h) (G : h.Ns mainGlobals mg) (c : He.SaysD fa fn K) : Leans P w K mg base 1 ce__law_order := by
  refine ⟨?_, ?_, ?_⟩
  · intro p hp
    simp only [ce__law_order, List.mem_cons, List.not_mem_nil, or_false] at hp
    rcases hp with rfl | rfl
    · exact (w__law_rounds X G c).mono (by decide)
    · exact (w__law_times X G c).mono (by decide)
  · intro p hp
    cases hp
  · intro p hp
    simp only [ce__law_order, List.mem_cons, List.not_mem_nil, or_false] at hp
    rcases hp with rfl | rfl
    · exact He.free_ok X G (c.fact 32 (f := .free "range") rfl)
    · exact He.free_ok X G (c.fact 34 (f := .free "len") rfl)
theorem w__law_order (X : K.In h) (G : h.Ns mainGlobals mg) (c : He.SaysD fa fn K) : CalW P w K mg base 2 "_law_order" F__law_order := by
  obtain ⟨fd, F⟩ := c.def_ 28 (d := dd__law_order) rfl
  exact VI.FunD.calW (k := 1) F k__law_order (l__law_order X G c) c__law_order (He.glo_ok X G (c.fact 28 (f := .glo "_law_order") rfl))
theorem l__law_stay (X : K.In h) (G : h.Ns mainGlobals mg) (c : He.SaysD fa fn K) : Leans P w K mg base 2 ce__law_stay := by
  refine ⟨?_, ?_, ?_⟩
  · intro p hp
    simp only [ce__law_stay, List.mem_cons, List.not_mem_nil, or_false] at hp
    rcases hp with rfl | rfl | rfl
    · exact (w__law_order X G c).mono (by decide)
    · exact (w__law_rows X G c).mono (by decide)
    · exact (w__law_rounds X G c).mono (by decide)
  · intro p hp
    cases hp
  · intro p hp
    simp only [ce__law_stay, List.mem_cons, List.not_mem_nil, or_false] at hp
    rcases hp with rfl | rfl | rfl | rfl
    · exact He.free_ok X G (c.fact 32 (f := .free "range") rfl)
    · exact He.free_ok X G (c.fact 34 (f := .free "len") rfl)
    · exact He.free_ok X G (c.fact 37 (f := .free "set") rfl)
    · exact He.free_ok X G (c.fact 38 (f := .free "max") rfl)
theorem w__law_stay (X : K.In h) (G : h.Ns mainGlobals mg) (c : He.SaysD fa fn K) : CalW P w K mg base 3 "_law_stay" F__law_stay := by
  obtain ⟨fd, F⟩ := c.def_ 29 (d := dd__law_stay) rfl
  exact VI.FunD.calW (k := 2) F k__law_stay (l__law_stay X G c) c__law_stay (He.glo_ok X G (c.fact 29 (f := .glo "_law_stay") rfl))
theorem l__law_kind (X : K.In h) (G : h.Ns mainGlobals mg) (c : He.SaysD fa fn K) : Leans P w K mg base 2 ce__law_kind := by
  refine ⟨?_, ?_, ?_⟩
  · intro p hp
    simp only [ce__law_kind, List.mem_cons, List.not_mem_nil, or_false] at hp
    rcases hp with rfl | rfl
    · exact (w__law_rows X G c).mono (by decide)
    · exact (w__law_rounds X G c).mono (by decide)
  · intro p hp
    cases hp
  · intro p hp
    simp only [ce__law_kind, List.mem_cons, List.not_mem_nil, or_false] at hp
    rcases hp with rfl | rfl | rfl
    · exact He.free_ok X G (c.fact 32 (f := .free "range") rfl)
    · exact He.free_ok X G (c.fact 34 (f := .free "len") rfl)
    · exact He.free_ok X G (c.fact 35 (f := .free "list") rfl)
theorem w__law_kind (X : K.In h) (G : h.Ns mainGlobals mg) (c : He.SaysD fa fn K) : CalW P w K mg base 3 "_law_kind" F__law_kind := by
  obtain ⟨fd, F⟩ := c.def_ 30 (d := dd__law_kind) rfl
  exact VI.FunD.calW (k := 2) F k__law_kind (l__law_kind X G c) c__law_kind (He.glo_ok X G (c.fact 30 (f := .glo "_law_kind") rfl))
theorem l_law (X : K.In h) (G : h.Ns mainGlobals mg) (c : He.SaysD fa fn K) : Leans P w K mg base 7 ce_law := by
  refine ⟨?_, ?_, ?_⟩
  · intro p hp
    simp only [ce_law, List.mem_cons, List.not_mem_nil, or_false] at hp
    rcases hp with rfl | rfl | rfl | rfl | rfl | rfl | rfl | rfl | rfl | rfl | rfl | rfl | rfl | rfl | rfl | rfl
    · exact (w__law_box X G c).mono (by decide)
    · exact (w__law_next X G c).mono (by decide)
    · exact (w__law_method X G c).mono (by decide)
    · exact (w_plain_bob X G c).mono (by decide)
    · exact (w_plain_hunt X G c).mono (by decide)
    · exact (w_with_cover X G c).mono (by decide)
    · exact (w__law_rows X G c).mono (by decide)
    · exact (w__law_rounds X G c).mono (by decide)
    · exact (w_path_of X G c).mono (by decide)
    · exact (w__law_places X G c).mono (by decide)
    · exact (w_line_of X G c).mono (by decide)
    · exact (w_place_bells X G c).mono (by decide)
    · exact (w_longest_stay X G c).mono (by decide)
    · exact (w__law_stay X G c).mono (by decide)
    · exact (w_kind_of X G c).mono (by decide)
    · exact (w__law_kind X G c).mono (by decide)
  · intro p hp
    cases hp
  · intro p hp
    simp only [ce_law, List.mem_cons, List.not_mem_nil, or_false] at hp
    rcases hp with rfl | rfl | rfl | rfl
    · exact He.free_ok X G (c.fact 32 (f := .free "range") rfl)
    · exact He.free_ok X G (c.fact 40 (f := .free "isinstance") rfl)
    · exact He.free_ok X G (c.fact 35 (f := .free "list") rfl)
    · exact He.free_ok X G (c.fact 41 (f := .free "bool") rfl)
theorem w_law (X : K.In h) (G : h.Ns mainGlobals mg) (c : He.SaysD fa fn K) : CalW P w K mg base 8 "law" F_law := by
  obtain ⟨fd, F⟩ := c.def_ 31 (d := dd_law) rfl
  exact VI.FunD.calW (k := 7) F k_law (l_law X G c) c_law (He.glo_ok X G (c.fact 31 (f := .glo "law") rfl))
end
open PySem.W PySem.Calls in
theorem holds_of (hl : LawF F_law) : PySem.Challenge.rw_truepeals_k05_what_a_bell_does_in_a_meth.Holds := by
  w_on; o_law
  refine HandSHeadRun.head_any (r := OpenLaw.row PySem.Challenge.rw_truepeals_k05_what_a_bell_does_in_a_meth) (q := view (OpenLaw.row PySem.Challenge.rw_truepeals_k05_what_a_bell_does_in_a_meth).prog [36]) (H := hk) (ob := ob) (M := 4000) (loose := names) (d := HandSHeadRun.topDef (OpenLaw.row PySem.Challenge.rw_truepeals_k05_what_a_bell_does_in_a_meth).prog 36) (kwd := []) ob_eq
    (by kernel_rfl) (fun s => by kernel_rfl) run (by kernel_rfl) (by kernel_rfl) (by kernel_rfl) (by rfl) (by first | assumption | decide +kernel) (by decide +kernel) ⟨rfl, rfl, rfl, rfl, rfl, by decide +kernel⟩ ?hw ?hc
  case hw => w_witness2
  case hc =>
    refine law_end (l := PySem.Challenge.rw_truepeals_k05_what_a_bell_does_in_a_meth) (k := 8) (x := "script") (g := F_law) rfl (by kernel_rfl) ⟨rfl, by decide, by decide⟩ hl ?F
    intro w mg fa0 h Y G hmg0
    obtain ⟨K, KX, c⟩ := Y
    have hmg : mg ("law" : PySem.Str) = some (.ref fa0) := by
      have e : (HandSHeadRun.topDef (OpenLaw.row PySem.Challenge.rw_truepeals_k05_what_a_bell_does_in_a_meth).prog 36).name = ("law" : PySem.Str) := by kernel_rfl
      rw [← e]
      exact hmg0
    obtain ⟨fd, F⟩ := c.def_ 31 (d := dd_law) rfl
    have e := hmg.symm.trans (He.glo_ok KX G (c.fact 31 (f := .glo "law") rfl))
    cases e
    have b := L2.FunD.bindsA (ps := ["script"]) F fun _ _ _ _ _ _ us hl => match us, hl with | [_], _ => rfl
    refine ⟨K, fd, KX, fun s v => b s [v] rfl, fun base KB GB => ?_⟩
    exact VI.FunD.fnOk (k := 7) F k_law (l_law KX G c) c_law
end Lk05

set_option Elab.async false
set_option linter.all false
set_option maxRecDepth 100000
set_option maxHeartbeats 4000000
namespace Lk05
open PySem PySem.Spec L2 VI
open PyProof.Rows hiding St
theorem e_draws : F__law_draws = fDraws := rfl
theorem e_box : F__law_box = fBox := rfl
theorem e_next : F__law_next = fNext := rfl
theorem e_rounds : F_rounds = fRounds := rfl
theorem e_lrounds : F__law_rounds = fRounds := rfl
theorem e_times : F_times = fTimes := rfl
theorem e_ltimes : F__law_times = fTimes := rfl
theorem e_lafter : F__law_after = fLawAfter := rfl
theorem e_rowsFrom : F_rows_from = fRowsFrom := rfl
theorem e_lastRow : F_last_row = fLastRow := rfl
theorem e_lrows : F__law_rows = fLawRows := rfl
theorem e_place : F_place_of = fPlaceOf := rfl
def methD (n : Nat) (cs : List (List Bool)) : D := .tup [.int n, chsD cs]
@[simp] theorem meth0 {n : Nat} {cs : List (List Bool)} : ixD (methD n cs) (.int 0) = some (.lf (.int n)) := rfl
@[simp] theorem meth1 {n : Nat} {cs : List (List Bool)} : ixD (methD n cs) (.int 1) = some (.lf (chsD cs)) := rfl
variable {n p : Nat} {cs : List (List Bool)}
theorem rows_f (M : Meth n cs) (hn : n ≤ 8) : F_rows_from [.lf (rowD (up n)), .lf (chsD cs)] = some (.lst (rowsD (rowsOf cs (up n))), [.lf (rowD (up n)), .lf (chsD cs)]) := by
  rw [e_rowsFrom]
  exact rowsFrom_ok (by simpa using M.wid) (by simp; omega) (by have := M.short; omega)
theorem rows_l (M : Meth n cs) (hn : n ≤ 8) : F__law_rows [.lf (rowD (up n)), .lf (chsD cs)] = some (.lst (rowsD (rowsOf cs (up n))), [.lf (rowD (up n)), .lf (chsD cs)]) := by
  rw [e_lrows]
  exact lawRows_ok (by simpa using M.wid) (by simp; omega) (by have := M.short; omega)
theorem rounds_f (hn : n ≤ 8) : F_rounds [.lf (.int n)] = some (.lf (rowD (up n)), [.lf (.int n)]) := by
  rw [e_rounds]
  exact rounds_ok (by omega)
theorem rounds_l (hn : n ≤ 8) : F__law_rounds [.lf (.int n)] = some (.lf (rowD (up n)), [.lf (.int n)]) := by
  rw [e_lrounds]
  exact rounds_ok (by omega)
theorem path_ok (M : Meth n cs) (hn : n ≤ 8) (hp : 1 ≤ p ∧ p ≤ n) : F_path_of [.lf (methD n cs), .lf (.int p)] = some (.lst (nums (pth n cs p)), [.lf (methD n cs), .lf (.int p)]) := by
  refine (fn_ev rfl fun R hR => ?_).eq
  have h1 := rows_f M hn
  have h2 := rounds_f hn
  have e := cRun_one (bs := rowsOf cs (up n)) (vs := [2]) (g := gNm 2) (mt := dYes) (me := dCall F_place_of (dConsL (dSl 2) (dConsL (dSl 1) dNilL))) (ρ := [some (.lf (methD n cs)), some (.lf (.int p)), none]) (e := rowD) (k := fun r => D.int ((pos r p : Nat) : Int)) (by rw [rowsOf_len]; have := M.short; omega) (by
    intro r hr es acc hacc
    have h3 := Row.rows Row.up r hr
    have h4 := placeOf_ok (h3.mem.mpr hp)
    rw [← e_place] at h4
    simp [h4, xC3_ev hacc]
    rfl)
  simp [m_path_of, h1, h2]
  rw [show rowsD (rowsOf cs (up n)) = (rowsOf cs (up n)).map rowD from rfl, e]
  simp
  refine .of (hR _ ⟨_, _, rfl, rfl, ?_⟩)
  simp [nums, pth, Function.comp_def]
theorem line_ok {l : Nat} (M : Meth n cs) (hn : n ≤ 8) (hp : 1 ≤ p ∧ p ≤ n) (L : Len n cs p l) : F_line_of [.lf (methD n cs), .lf (.int p)] = some (.lst (nums (lin n cs l p)), [.lf (methD n cs), .lf (.int p)]) := by
  refine (fn_ev rfl fun R hR => ?_).eq
  obtain ⟨l, rfl⟩ : ∃ k, l = k + 1 := ⟨l - 1, by have := L.1; omega⟩
  have hl := L.2.1
  have len : ∀ i, (lin n cs i p).length = i * cs.length := fun i => by
    have hc : 0 < cs.length := List.length_pos_iff.mpr M.some
    rw [lin_pat hc]; simp
  have room : ∀ i, i ≤ l → (nums (lin n cs i p)).length + (nums (pth n cs (sgk n cs i p)).dropLast).length ≤ sizeLine := fun i hi => by
    refine le_size ?_
    have h1 : (lin n cs (i + 1) p).length = (i + 1) * cs.length := len (i + 1)
    rw [lin_succ, List.length_append] at h1
    simp only [seg] at h1
    have h2 : (i + 1) * cs.length ≤ 8 * 100 := Nat.mul_le_mul (by omega) M.short
    simp only [nums_len]
    omega
  simp [m_line_of]
  generalize hF : sWhile _ _ _ = F
  obtain ⟨q, ⟨o, rfl⟩, rfl⟩ := while_inv hF (fun i ρ => ∃ o : Option T, ρ = [some (.lf (methD n cs)), some (.lf (.int p)), some (.lst (nums (lin n cs i p))), some (.lf (.int (sgk n cs i p))), o]) l
    ⟨none, by simp [lin, sgk]⟩ (by
      rintro i h1 ρ R hR ⟨o, rfl⟩
      have h2 := path_ok M hn (sgk_in (cs := cs) hp i)
      have h3 := atI_end (pth_last (n := n) (p := sgk n cs i p) (cs := cs))
      have h4 : ((sg n cs (sgk n cs i p) : Int) == (p : Int)) = false := by
        have := L.2.2.2 (i + 1) (by omega) (by omega)
        have : sg n cs (sgk n cs i p) ≠ p := this
        simp
        omega
      simp [h2, h3, h4, nums_but]
      rw [xAugL1_ev (room i (by omega))]
      simp [h2, h3, h4]
      exact .of (hR _ ⟨_, by rw [lin_succ, nums_app]; rfl⟩))
    (Q := fun q => ∃ ρ, q = (.rt (.lst (nums (lin n cs (l + 1) p))), some (.lf (methD n cs)) :: some (.lf (.int p)) :: ρ)) (by
      rintro ρ ⟨o, rfl⟩
      have h2 := path_ok M hn (sgk_in (cs := cs) hp l)
      have h3 := atI_end (pth_last (n := n) (p := sgk n cs l p) (cs := cs))
      have h4 : sg n cs (sgk n cs l p) = p := L.2.2.1
      rw [h4] at h3
      simp [h2, h3, nums_but]
      rw [xAugL1_ev (room l (by omega))]
      simp [h3]
      exact .of ⟨_, by rw [lin_succ, nums_app]; rfl⟩)
  simp
  exact .of (hR _ ⟨_, _, rfl, rfl, rfl⟩)
def orb (n : Nat) (cs : List (List Bool)) (l p : Nat) : List Nat := (List.range l).map fun k => sgk n cs k p
theorem orb_succ {l : Nat} : orb n cs (l + 1) p = orb n cs l p ++ [sgk n cs l p] := by simp [orb, List.range_succ]
theorem orb_len {l : Nat} : (orb n cs l p).length = l := by simp [orb]
theorem bells_ok {l : Nat} (M : Meth n cs) (hn : n ≤ 8) (hp : 1 ≤ p ∧ p ≤ n) (L : Len n cs p l) : F_place_bells [.lf (methD n cs), .lf (.int p)] = some (.lst (nums (orb n cs l p)), [.lf (methD n cs), .lf (.int p)]) := by
  refine (fn_ev rfl fun R hR => ?_).eq
  obtain ⟨l, rfl⟩ : ∃ k, l = k + 1 := ⟨l - 1, by have := L.1; omega⟩
  have hl := L.2.1
  simp [m_place_bells]
  generalize hF : sWhile _ _ _ = F
  obtain ⟨q, ⟨o, rfl⟩, rfl⟩ := while_inv hF (fun i ρ => ∃ o : Option T, ρ = [some (.lf (methD n cs)), some (.lf (.int p)), some (.lst (nums (orb n cs (i + 1) p))), o]) l
    ⟨none, by simp [orb, sgk, nums]⟩ (by
      rintro i h1 ρ R hR ⟨o, rfl⟩
      have h2 := path_ok M hn (sgk_in (cs := cs) hp i)
      have h3 := atI_end (pth_last (n := n) (p := sgk n cs i p) (cs := cs))
      have h5 : atI (nums (orb n cs (i + 1) p)) (-1) = some (.int (sgk n cs i p)) := atI_end (by simp [orb_succ])
      have h4 : ((sg n cs (sgk n cs i p) : Int) == (p : Int)) = false := by
        have := L.2.2.2 (i + 1) (by omega) (by omega)
        have : sg n cs (sgk n cs i p) ≠ p := this
        simp
        omega
      simp [h2, h3, h4, h5]
      rw [xApp2_ev (lt_size (by simp [orb_len]; omega))]
      simp
      exact .of (hR _ ⟨_, by rw [orb_succ (l := i + 1), nums_app]; rfl⟩))
    (Q := fun q => ∃ ρ, q = (.rt (.lst (nums (orb n cs (l + 1) p))), some (.lf (methD n cs)) :: some (.lf (.int p)) :: ρ)) (by
      rintro ρ ⟨o, rfl⟩
      have h2 := path_ok M hn (sgk_in (cs := cs) hp l)
      have h3 := atI_end (pth_last (n := n) (p := sgk n cs l p) (cs := cs))
      have h5 : atI (nums (orb n cs (l + 1) p)) (-1) = some (.int (sgk n cs l p)) := atI_end (by simp [orb_succ])
      have h4 : sg n cs (sgk n cs l p) = p := L.2.2.1
      rw [h4] at h3
      simp [h2, h3, h5]
      exact .of ⟨_, rfl⟩)
  simp
  exact .of (hR _ ⟨_, _, rfl, rfl, rfl⟩)
theorem rowsD_last : atI (rowsD (rowsOf cs (up n))) (-1) = some (rowD (hd n cs)) := by
  have e := rowsOf_last (cs := cs) (a := up n)
  rw [List.getLast?_eq_some_iff] at e
  obtain ⟨ys, e⟩ := e
  rw [e]
  simp only [rowsD, List.map_append, List.map_cons, List.map_nil]
  exact atI_last
theorem index_row {r : List Nat} (h : Row n r) (hp : 1 ≤ p ∧ p ≤ n) : indexA (rowD r) [.int p] = some (.lf (.int (r.idxOf p))) := index_tup (h.mem.mpr hp)
theorem lplaces_ok {l : Nat} (M : Meth n cs) (hn : n ≤ 8) (hp : 1 ≤ p ∧ p ≤ n) (L : Len n cs p l) : F__law_places [.lf (methD n cs), .lf (.int p)] = some (.lf (.tup [.lst (nums (lin n cs l p)), .lst (nums (orb n cs l p))]), [.lf (methD n cs), .lf (.int p)]) := by
  refine (fn_ev rfl fun R hR => ?_).eq
  have hl := L.2.1
  have hl0 := L.1
  have h1 := rows_l M hn
  have h2 := rounds_l hn
  have hr : rangeD [.int 20] = some (.lf (.rng 0 20 1 20)) := rangeD_one (b := 20) (by decide) (by decide)
  have len : ∀ i, (lin n cs i p).length = i * cs.length := fun i => by
    have hc : 0 < cs.length := List.length_pos_iff.mpr M.some
    rw [lin_pat hc]; simp
  have room : ∀ i, i < l → (nums (lin n cs i p)).length + (nums (seg n cs (sgk n cs i p))).length ≤ sizeLine := fun i hi => by
    refine le_size ?_
    have h1 : (lin n cs (i + 1) p).length = (i + 1) * cs.length := len (i + 1)
    rw [lin_succ, List.length_append] at h1
    have h2 : (i + 1) * cs.length ≤ 8 * 100 := Nat.mul_le_mul (by omega) M.short
    simp only [nums_len]
    omega
  have comp : ∀ (i : Nat) (ρ2 ρ3 o5 : Option T), 1 ≤ sgk n cs i p ∧ sgk n cs i p ≤ n → cRun [7] (gNm 7) dYes (dBin addD (dM indexA (dSl 7) (dConsA (dVar 4) dNilA)) (dC (.int 1))) (rowsD (rowsOf cs (up n)).dropLast) [] [some (.lf (methD n cs)), some (.lf (.int p)), ρ2, ρ3, some (.lf (.int (sgk n cs i p))), o5, some (.lst (rowsD (rowsOf cs (up n)))), none] = some (nums (seg n cs (sgk n cs i p)), [some (.lf (methD n cs)), some (.lf (.int p)), ρ2, ρ3, some (.lf (.int (sgk n cs i p))), o5, some (.lst (rowsD (rowsOf cs (up n)))), none]) := by
    intro i ρ2 ρ3 o5 hq
    refine (cRun_one (bs := (rowsOf cs (up n)).dropLast) (e := rowD) (k := fun r => D.int ((pos r (sgk n cs i p) : Nat) : Int)) (by simp [rowsOf_len]; have := M.short; omega) (by
      intro r hr es acc hacc
      have h3 := Row.rows Row.up r ((List.dropLast_sublist _).subset hr)
      have h4 := index_row h3 hq
      simp [h4, xC3_ev hacc]
      rfl)).trans ?_
    simp [nums, seg, pth, Function.comp_def, List.map_dropLast]
  simp [m__law_places, hr]
  generalize hF : fRun _ _ _ _ = F
  obtain ⟨q, ⟨o, rfl⟩, rfl⟩ := fRun_ret hF (fun i ρ => ∃ o o' : Option T, ρ = [some (.lf (methD n cs)), some (.lf (.int p)), some (.lst (nums (lin n cs i p))), some (.lst (nums (orb n cs i p))), some (.lf (.int (sgk n cs i p))), o, o', none]) l (by simp; omega)
    ⟨none, none, by simp [lin, orb, sgk]⟩ (by
      rintro i hi h3 ρ es R hR ⟨o, o', rfl⟩
      have hq := sgk_in (cs := cs) hp i
      have h4 : ¬ (0 < i ∧ sgk n cs i p = p) := fun h => L.2.2.2 i (by omega) h3 h.2
      have h5 : (rngI 0 1 20)[i]'(by simpa using hi) = (i : Int) := by simp [rngI]
      have h6 := index_row (Row.hd (n := n) (cs := cs)) hq
      have hcond : (decide (0 < i) && ((sgk n cs i p : Int) == (p : Int))) = false := by
        by_cases h7 : 0 < i
        · have : sgk n cs i p ≠ p := fun h => h4 ⟨h7, h⟩
          simp [h7]
          omega
        · simp [h7]
      have h8 : (rowsD (rowsOf cs (up n))).dropLast = rowsD (rowsOf cs (up n)).dropLast := by simp [rowsD, List.map_dropLast]
      simp [h5]
      rw [xAnd_b (b := ((sgk n cs i p : Int) == (p : Int))) (by simp), hcond]
      simp
      rw [xApp2_ev (lt_size (by simp [orb_len]; omega))]
      simp [h1, h2, h8, comp i _ _ _ hq]
      rw [addD_lst (room i h3)]
      simp [rowsD_last, h6]
      exact .of (hR _ ⟨_, _, by rw [lin_succ, orb_succ, nums_app, nums_app]; rfl⟩))
    (Q := fun q => ∃ ρ, q = (.rt (.lf (.tup [.lst (nums (lin n cs l p)), .lst (nums (orb n cs l p))])), some (.lf (methD n cs)) :: some (.lf (.int p)) :: ρ)) (by
      rintro ρ es ⟨o, o', rfl⟩
      have h5 : (rngI 0 1 20)[l]'(by simp; omega) = (l : Int) := by simp [rngI]
      have h6 : sgk n cs l p = p := L.2.2.1
      have h7 : 0 < l := by omega
      simp [h5, h6, h7]
      exact .of ⟨_, rfl⟩)
  simp
  exact .of (hR _ ⟨_, _, rfl, rfl, rfl⟩)
/-! ### the longest stay -/
theorem mx_max {p q : Nat} : maxL [.int (p : Int), .int (q : Int)] = some (.lf (.int ((max p q : Nat) : Int))) := by
  rw [maxL_ii]
  congr 3
  split <;> omega
def resT : Option Nat → T
  | none => .lf .non
  | some m => .lf (.int m)
def fOf (n : Nat) (cs : List (List Bool)) (p : Nat) : Nat → Nat := pat n cs p
open Classical in
noncomputable def lenOf (n : Nat) (cs : List (List Bool)) (p : Nat) : Nat := if h : 1 ≤ p ∧ p ≤ n then Classical.choose (len_ex (cs := cs) h) else 0
theorem lenOf_ok (hp : 1 ≤ p ∧ p ≤ n) : Len n cs p (lenOf n cs p) := by
  unfold lenOf
  rw [dif_pos hp]
  exact Classical.choose_spec (len_ex (cs := cs) hp)
noncomputable def st1 (n : Nat) (cs : List (List Bool)) (p m : Nat) : Option Nat := stp (pat n cs p) (lenOf n cs p * cs.length) (2 * (lenOf n cs p * cs.length) - 1) m
theorem inner1 {f : Nat → Nat} {K m : Nat} {a b c d : Option T} {tw : List Nat} (ht : tw = (List.range (K + 1)).map f) (hK : K ≤ 10000) :
    ∃ o, fRun (gNm 6) (sSeq (sSet 5 (dIf (dBl (dBin eqD (dBinO ixD (dSl 4) (dSl 6)) (dBinO ixD (dSl 4) (dO (dBin subD (dVar 6) (dC (.int 1))))))) (dBin addD (dVar 5) (dC (.int 1))) (dC (.int 1)))) (sSeq (sSet 1 (dCB (maxL) (dConsL (dSl 1) (dConsL (dSl 5) dNilL)))) sNil))
      (nums (List.range' 1 K)) [a, some (.lf (.int m)), b, c, some (.lst (nums tw)), some (.lf (.int 1)), d] = some (.nx, [a, some (.lf (.int (mxr f m K : Nat))), b, c, some (.lst (nums tw)), some (.lf (.int (rn f K : Nat))), o]) := by
  generalize hF : fRun _ _ _ _ = F
  obtain ⟨ρ', ⟨o, rfl⟩, rfl⟩ := fRun_inv hF (fun i ρ => ∃ o, ρ = [a, some (.lf (.int (mxr f m i : Nat))), b, c, some (.lst (nums tw)), some (.lf (.int (rn f i : Nat))), o])
    ⟨d, by simp [mxr, rn]⟩ (by
      rintro i hi ρ es R hR ⟨o, rfl⟩
      have hi : i < K := by simpa using hi
      have h1 : atI (nums tw) ((1 + i : Nat) : Int) = some (.int (f (i + 1) : Nat)) := by
        rw [atI_nums (n := 1 + i) rfl (by rw [ht]; simp; omega)]
        simp [ht, Nat.add_comm]
      have h2 : atI (nums tw) (((1 + i : Nat) : Int) - 1) = some (.int (f i : Nat)) := by
        rw [atI_nums (n := i) (by omega) (by rw [ht]; simp; omega)]
        simp [ht]
      have h3 : ∀ q : Nat, maxL [.int (mxr f m i : Nat), .int (q : Nat)] = some (.lf (.int ((max (mxr f m i) q : Nat) : Int))) := fun q => mx_max
      by_cases h4 : f (i + 1) = f i
      · have h5 := h3 (rn f i + 1)
        simp at h1 h2 h5
        simp [h1, h2, h4, h5]
        exact .of (hR _ ⟨_, by simp [mxr, rn, h4]; rfl⟩)
      · have h5 := h3 1
        have h6 : ((f (i + 1) : Int) == (f i : Int)) = false := by simp; omega
        simp at h1 h2 h5
        simp [h1, h2, h6, h5]
        exact .of (hR _ ⟨_, by simp [mxr, rn, h4]; rfl⟩))
  exact ⟨o, by simp⟩
noncomputable def body1 : DenS := (sSeq (sSet 3 (dCall F_line_of (dConsL (dSl 0) (dConsL (dSl 2) dNilL)))) (sSeq (dIf (dBl (dBin eqD (dLenSet (dVar 3)) (dC (.int 1)))) (sSeq (sRet (dC .non)) sNil) sNil) (sSeq (sSet 4 (dBin addD (dVar 3) (dVar 3))) (sSeq (sSet 5 (dC (.int 1))) (sSeq (sFor (dIter (dCB (rangeD) (dConsL (dO (dC (.int 1))) (dConsL (dO (dCB (on1 lenD) (dConsL (dSl 4) dNilL))) dNilL)))) (gNm 6) (sSeq (sSet 5 (dIf (dBl (dBin eqD (dBinO ixD (dSl 4) (dSl 6)) (dBinO ixD (dSl 4) (dO (dBin subD (dVar 6) (dC (.int 1))))))) (dBin addD (dVar 5) (dC (.int 1))) (dC (.int 1)))) (sSeq (sSet 1 (dCB (maxL) (dConsL (dSl 1) (dConsL (dSl 5) dNilL)))) sNil))) sNil)))))
theorem outer1 (M : Meth n cs) (hn : n ≤ 8) : ∀ (ps : List Nat) (m : Nat) (o2 o3 o4 o5 o6 : Option T), (∀ p ∈ ps, 1 ≤ p ∧ p ≤ n) →
    Ev (fun q => match stays (st1 n cs) ps m with
      | none => ∃ ρ, q = (.rt (.lf .non), some (.lf (methD n cs)) :: ρ)
      | some m' => ∃ ρ, q = (.nx, some (.lf (methD n cs)) :: some (.lf (.int m')) :: ρ)) (fRun (gNm 2) body1 (nums ps) [some (.lf (methD n cs)), some (.lf (.int m)), o2, o3, o4, o5, o6])
  | [], m, o2, o3, o4, o5, o6, _ => .of ⟨_, rfl⟩
  | p :: ps, m, o2, o3, o4, o5, o6, h => by
    have hp := h p (by simp)
    have L := lenOf_ok (cs := cs) hp
    have h1 := line_ok M hn hp L
    have hc : 0 < cs.length := List.length_pos_iff.mpr M.some
    have ht : 0 < lenOf n cs p * cs.length := Nat.mul_pos L.1 hc
    have hb : lenOf n cs p * cs.length ≤ 8 * 100 := Nat.mul_le_mul (by have := L.2.1; omega) M.short
    have hl : (lin n cs (lenOf n cs p) p).length = lenOf n cs p * cs.length := by rw [lin_pat hc]; simp
    have h2 := fun ρ : En => lenSet_nums (r := lin n cs (lenOf n cs p) p) (ρ := ρ) (by rw [hl]; show _ < 4096; omega)
    have h3 := one_const (f := pat n cs p) ht
    rw [← lin_pat hc] at h3
    show Ev _ (fRun (gNm 2) body1 (D.int p :: nums ps) _)
    rw [fRun_cons]
    by_cases hC : Const (pat n cs p) (lenOf n cs p * cs.length)
    · have h4 := h3.mpr hC
      have e : stays (st1 n cs) (p :: ps) m = none := by simp [stays, st1, stp, hC]
      rw [e]
      rw [h4] at h2
      have : xFR1 (gNm 2) body1 (nums ps) (gNm 2 (D.int p) [some (.lf (methD n cs)), some (.lf (.int m)), o2, o3, o4, o5, o6]) = some (.rt (.lf .non), [some (.lf (methD n cs)), some (.lf (.int m)), some (.lf (.int p)), some (.lf (.lst (nums (lin n cs (lenOf n cs p) p)))), o4, o5, o6]) := by
        simp [body1, h1, h2]
      rw [this]
      exact .of ⟨_, rfl⟩
    · have h4 : ¬ _ := fun h => hC (h3.mp h)
      have e : stays (st1 n cs) (p :: ps) m = stays (st1 n cs) ps (mxr (pat n cs p) m (2 * (lenOf n cs p * cs.length) - 1)) := by simp [stays, st1, stp, hC]
      rw [e]
      have h5 : (((dedupI ((lin n cs (lenOf n cs p) p).map fun n : Nat => (n : Int))).length : Int) == 1) = false := by simp; omega
      have h6 : addD (.lst (nums (lin n cs (lenOf n cs p) p))) (.lst (nums (lin n cs (lenOf n cs p) p))) = some (.lst (nums (lin n cs (lenOf n cs p) p ++ lin n cs (lenOf n cs p) p))) := by
        rw [addD_lst (le_size (by simp [hl]; omega)), nums_app]
      have h7 : rangeD [.int 1, .int ((lin n cs (lenOf n cs p) p).length + (lin n cs (lenOf n cs p) p).length)] = some (.lf (.rng 1 ((lin n cs (lenOf n cs p) p).length + (lin n cs (lenOf n cs p) p).length) 1 (2 * (lenOf n cs p * cs.length) - 1))) := by
        rw [rangeD_two (by decide) (by decide) (by omega) (by rw [hl]; omega)]
        congr 3
        omega
      have h8 := nums_rng (a := 1) (n := 2 * (lenOf n cs p * cs.length) - 1)
      have h9 : lin n cs (lenOf n cs p) p ++ lin n cs (lenOf n cs p) p = (List.range (2 * (lenOf n cs p * cs.length) - 1 + 1)).map (pat n cs p) := by
        have per : ∀ k, pat n cs p (k + lenOf n cs p * cs.length) = pat n cs p k := fun k => pat_per hc L.2.2.1
        rw [lin_pat hc]
        generalize lenOf n cs p * cs.length = t at per ht
        have e2 : 2 * t - 1 + 1 = t + t := by omega
        have e3 : (pat n cs p ∘ fun x => t + x) = pat n cs p := by
          funext k
          rw [Function.comp, Nat.add_comm, per]
        rw [e2, List.range_add, List.map_append, List.map_map, e3]
      obtain ⟨o, h10⟩ := inner1 (f := pat n cs p) (K := 2 * (lenOf n cs p * cs.length) - 1) (m := m) (a := some (.lf (methD n cs))) (b := some (.lf (.int p))) (c := some (.lf (.lst (nums (lin n cs (lenOf n cs p) p))))) (d := o6) h9 (by omega)
      simp at h8
      simp [body1, h1, h2, h5, h6, h7, h8, h10]
      exact outer1 M hn ps _ _ _ _ _ _ fun q hq => h q (by simp [hq])
theorem stay_ok (M : Meth n cs) (hn : n ≤ 8) : F_longest_stay [.lf (methD n cs)] = some (resT (stays (st1 n cs) (up n) 0), [.lf (methD n cs)]) := by
  refine (fn_ev rfl fun R hR => ?_).eq
  have h1 := rounds_f hn
  obtain ⟨q, e, hq⟩ := outer1 M hn (up n) 0 none none none none none fun p hp => mem_up.mp hp
  unfold body1 at e
  simp at e
  simp [m_longest_stay, h1, rowD, e]
  cases hs : stays (st1 n cs) (up n) 0 with
  | none =>
    rw [hs] at hq
    obtain ⟨ρ, rfl⟩ := hq
    simp
    exact .of (hR _ ⟨_, _, rfl, rfl, by rw [hs]; rfl⟩)
  | some m =>
    rw [hs] at hq
    obtain ⟨ρ, rfl⟩ := hq
    simp
    exact .of (hR _ ⟨_, _, rfl, rfl, by rw [hs]; rfl⟩)
/-! ### the law's order -/
theorem order_ok (hn : n ≤ 8) : ∃ m, 1 ≤ m ∧ m ≤ 15 ∧ (∀ p, 1 ≤ p ∧ p ≤ n → sgk n cs m p = p) ∧ F__law_order [.lf (rowD (hd n cs))] = some (.lf (.int m), [.lf (rowD (hd n cs))]) := by
  obtain ⟨k, k1, k2, k3⟩ := order_ex (cs := cs) hn
  obtain ⟨m, m1, ⟨m2, m3⟩, m4⟩ := leastK (P := fun k => 1 ≤ k ∧ lastOf (rep k cs) (up n) = up n) ⟨k1, rep_up.mpr k3⟩
  refine ⟨m, m2, by omega, rep_up.mp m3, (fn_ev rfl fun R hR => ?_).eq⟩
  have hlen : (hd n cs).length = n := (Row.hd (cs := cs)).len
  have h1 := rounds_l hn
  have hr : rangeD [.int 1, .int 100] = some (.lf (.rng 1 100 1 99)) := rangeD_two (by decide) (by decide) (by decide) (by decide)
  have h2 : ∀ i, F__law_times [.lf (rowD (lastOf (rep i cs) (up n))), .lf (rowD (hd n cs))] = some (.lf (rowD (lastOf (rep (i + 1) cs) (up n))), [.lf (rowD (lastOf (rep i cs) (up n))), .lf (rowD (hd n cs))]) := by
    intro i
    have hrow : Row n (lastOf (rep i cs) (up n)) := Row.up.last
    have := times_ok (a := lastOf (rep i cs) (up n)) (b := hd n cs) (fun p hp => by
      have := (Row.hd (cs := cs)).mem.mp hp
      rw [hrow.len]
      omega) (by rw [hlen]; omega)
    rw [mul_last hrow] at this
    rw [rep_snoc, lastOf_app]
    exact this
  have h3 : lenD (rowD (hd n cs)) = some (.lf (.int n)) := by simp [rowD, hlen]
  simp [m__law_order, hr]
  generalize hF : fRun _ _ _ _ = F
  obtain ⟨q, ⟨o, rfl⟩, rfl⟩ := fRun_ret hF (fun i ρ => ∃ o : Option T, ρ = [some (.lf (rowD (hd n cs))), some (.lf (rowD (lastOf (rep (i + 1) cs) (up n)))), o]) (m - 1) (by simp; omega)
    ⟨none, by simp [rep, hd]⟩ (by
      rintro i hi h4 ρ es R hR ⟨o, rfl⟩
      have h5 : (lastOf (rep (i + 1) cs) (up n) == up n) = false := by
        have := m4 (i + 1) (by omega)
        simp at this
        simpa using this
      simp [h1, h3, eqD_row, h5, h2]
      exact .of (hR _ ⟨_, rfl⟩))
    (Q := fun q => ∃ ρ, q = (.rt (.lf (.int m)), some (.lf (rowD (hd n cs))) :: ρ)) (by
      rintro ρ es ⟨o, rfl⟩
      have h5 : lastOf (rep (m - 1 + 1) cs) (up n) = up n := by rw [show m - 1 + 1 = m by omega]; exact m3
      have h6 : (rngI 1 1 99)[m - 1]'(by simp; omega) = (m : Int) := by simp [rngI]; omega
      simp [h1, h3, eqD_row, h5, h6]
      exact .of ⟨_, rfl⟩)
  simp
  exact .of (hR _ ⟨_, _, rfl, rfl, rfl⟩)
theorem up_idx' (hp : 1 ≤ p ∧ p ≤ n) : pos (up n) p = p := up_idx hp.1 hp.2
/-! ### the law's stay -/
theorem inner2 {f : Nat → Nat} {K m : Nat} {a b c d o7 o8 : Option T} {tw : List Nat} (ht : tw = (List.range (K + 1)).map f) (hK : K ≤ 10000) :
    ∃ o, fRun (gNm 7) (sSeq (sSet 6 (dIf (dBl (dBin eqD (dBinO ixD (dSl 5) (dSl 7)) (dBinO ixD (dSl 5) (dO (dBin subD (dVar 7) (dC (.int 1))))))) (dBin addD (dVar 6) (dC (.int 1))) (dC (.int 1)))) (sSeq (sSet 3 (dCB (maxL) (dConsL (dSl 3) (dConsL (dSl 6) dNilL)))) sNil))
      (nums (List.range' 1 K)) [a, b, c, some (.lf (.int m)), d, some (.lf (.lst (nums tw))), some (.lf (.int 1)), o7, o8] = some (.nx, [a, b, c, some (.lf (.int (mxr f m K : Nat))), d, some (.lf (.lst (nums tw))), some (.lf (.int (rn f K : Nat))), o, o8]) := by
  generalize hF : fRun _ _ _ _ = F
  obtain ⟨ρ', ⟨o, rfl⟩, rfl⟩ := fRun_inv hF (fun i ρ => ∃ o, ρ = [a, b, c, some (.lf (.int (mxr f m i : Nat))), d, some (.lf (.lst (nums tw))), some (.lf (.int (rn f i : Nat))), o, o8])
    ⟨o7, by simp [mxr, rn]⟩ (by
      rintro i hi ρ es R hR ⟨o, rfl⟩
      have hi : i < K := by simpa using hi
      have h1 : atI (nums tw) ((1 + i : Nat) : Int) = some (.int (f (i + 1) : Nat)) := by
        rw [atI_nums (n := 1 + i) rfl (by rw [ht]; simp; omega)]
        simp [ht, Nat.add_comm]
      have h2 : atI (nums tw) (((1 + i : Nat) : Int) - 1) = some (.int (f i : Nat)) := by
        rw [atI_nums (n := i) (by omega) (by rw [ht]; simp; omega)]
        simp [ht]
      have h3 : ∀ q : Nat, maxL [.int (mxr f m i : Nat), .int (q : Nat)] = some (.lf (.int ((max (mxr f m i) q : Nat) : Int))) := fun q => mx_max
      by_cases h4 : f (i + 1) = f i
      · have h5 := h3 (rn f i + 1)
        simp at h1 h2 h5
        simp [h1, h2, h4, h5]
        exact .of (hR _ ⟨_, by simp [mxr, rn, h4]; rfl⟩)
      · have h5 := h3 1
        have h6 : ((f (i + 1) : Int) == (f i : Int)) = false := by simp; omega
        simp at h1 h2 h5
        simp [h1, h2, h6, h5]
        exact .of (hR _ ⟨_, by simp [mxr, rn, h4]; rfl⟩))
  exact ⟨o, by simp⟩
def body2 : DenS := (sSeq (sSet 5 (dComp [8] (dIter (dVar 2)) (gNm 8) dYes (dM indexA (dSl 8) (dConsA (dVar 4) dNilA)))) (sSeq (dIf (dBl (dBin eqD (dLenSet (dVar 5)) (dC (.int 1)))) (sSeq (sRet (dC .non)) sNil) sNil) (sSeq (sSet 6 (dC (.int 1))) (sSeq (sFor (dIter (dCB (rangeD) (dConsL (dO (dC (.int 1))) (dConsL (dO (dCB (on1 lenD) (dConsL (dSl 5) dNilL))) dNilL)))) (gNm 7) (sSeq (sSet 6 (dIf (dBl (dBin eqD (dBinO ixD (dSl 5) (dSl 7)) (dBinO ixD (dSl 5) (dO (dBin subD (dVar 7) (dC (.int 1))))))) (dBin addD (dVar 6) (dC (.int 1))) (dC (.int 1)))) (sSeq (sSet 3 (dCB (maxL) (dConsL (dSl 3) (dConsL (dSl 6) dNilL)))) sNil))) sNil))))
noncomputable def st2 (n : Nat) (cs : List (List Bool)) (many p m : Nat) : Option Nat := stp (fun k => pat n cs p k - 1) (2 * many * cs.length + 1) (2 * many * cs.length) m
theorem outer2 {many : Nat} (M : Meth n cs) (hn : n ≤ 8) (hm : many ≤ 15) (o1 : Option T) : ∀ (ps : List Nat) (m : Nat) (b : Bool) (o4 o5 o6 o7 : Option T), (∀ p ∈ ps, 1 ≤ p ∧ p ≤ n) →
    Ev (fun q => match stays (st2 n cs many) ps m with
      | none => ∃ ρ, q = (.rt (.lf .non), some (.lf (methD n cs)) :: ρ)
      | some m' => ∃ a1 a2 ρ, q = (.nx, some (.lf (methD n cs)) :: a1 :: a2 :: some (.lf (.int m')) :: ρ)) (fRun (gNm 4) body2 (nums ps) [some (.lf (methD n cs)), o1, some (if b then .lf (.lst (rowsD (rowsOf (rep (2 * many) cs) (up n)))) else .lst (rowsD (rowsOf (rep (2 * many) cs) (up n)))), some (.lf (.int m)), o4, o5, o6, o7, none])
  | [], m, b, o4, o5, o6, o7, _ => .of ⟨_, _, _, rfl⟩
  | p :: ps, m, b, o4, o5, o6, o7, h => by
    have hp := h p (by simp)
    have hc : 0 < cs.length := List.length_pos_iff.mpr M.some
    have hb : 2 * many * cs.length ≤ 30 * 100 := Nat.mul_le_mul (by omega) M.short
    have hpl : (List.map (fun r => r.idxOf p) (rowsOf (rep (2 * many) cs) (up n))) = (List.range (2 * many * cs.length + 1)).map (fun k => pat n cs p k - 1) := by
      have h1 := rows_pat hc hp (2 * many) (Row.up (n := n))
      rw [up_idx' hp] at h1
      have h2 := congrArg (List.map fun x : Nat => x - 1) h1
      simpa [pos, Function.comp_def] using h2
    have h0 : cRun [8] (gNm 8) dYes (dM indexA (dSl 8) (dConsA (dVar 4) dNilA)) (rowsD (rowsOf (rep (2 * many) cs) (up n))) [] [some (.lf (methD n cs)), o1, some (.lf (.lst (rowsD (rowsOf (rep (2 * many) cs) (up n))))), some (.lf (.int m)), some (.lf (.int p)), o5, o6, o7, none] = some (nums ((List.range (2 * many * cs.length + 1)).map (fun k => pat n cs p k - 1)), [some (.lf (methD n cs)), o1, some (.lf (.lst (rowsD (rowsOf (rep (2 * many) cs) (up n))))), some (.lf (.int m)), some (.lf (.int p)), o5, o6, o7, none]) := by
      rw [← hpl]
      refine (cRun_one (bs := rowsOf (rep (2 * many) cs) (up n)) (e := rowD) (k := fun r => D.int ((r.idxOf p : Nat) : Int)) (by rw [rowsOf_len, rep_len]; omega) (by
        intro r hr es acc hacc
        have h3 := Row.rows Row.up r hr
        have h4 := index_row h3 hp
        simp [h4, xC3_ev hacc])).trans ?_
      simp [nums, Function.comp_def]
    have h2 := fun ρ : En => lenSet_nums (r := (List.range (2 * many * cs.length + 1)).map (fun k => pat n cs p k - 1)) (ρ := ρ) (by simp; show _ < 4096; omega)
    have h3 := one_const (f := fun k => pat n cs p k - 1) (t := 2 * many * cs.length + 1) (by omega)
    show Ev _ (fRun (gNm 4) body2 (D.int p :: nums ps) _)
    rw [fRun_cons]
    generalize hpls : (List.range (2 * many * cs.length + 1)).map (fun k => pat n cs p k - 1) = pls at h0 h2 h3
    have hlen : pls.length = 2 * many * cs.length + 1 := by rw [← hpls]; simp
    by_cases hC : Const (fun k => pat n cs p k - 1) (2 * many * cs.length + 1)
    · have h4 := h3.mpr hC
      have e : stays (st2 n cs many) (p :: ps) m = none := by simp [stays, st2, stp, hC]
      rw [e]
      rw [h4] at h2
      cases b <;> simp [body2, h0, h2] <;> exact .of ⟨_, rfl⟩
    · have h4 : ¬ _ := fun h => hC (h3.mp h)
      have e : stays (st2 n cs many) (p :: ps) m = stays (st2 n cs many) ps (mxr (fun k => pat n cs p k - 1) m (2 * many * cs.length)) := by simp [stays, st2, stp, hC]
      rw [e]
      have h5 : (((dedupI (pls.map fun n : Nat => (n : Int))).length : Int) == 1) = false := by simp; omega
      have h7 : rangeD [.int 1, .int pls.length] = some (.lf (.rng 1 pls.length 1 (2 * many * cs.length))) := by
        rw [rangeD_two (by decide) (by decide) (by omega) (by rw [hlen]; omega)]
        congr 3
        omega
      have h8 := nums_rng (a := 1) (n := 2 * many * cs.length)
      obtain ⟨o, h10⟩ := inner2 (f := fun k => pat n cs p k - 1) (K := 2 * many * cs.length) (m := m) (a := some (.lf (methD n cs))) (b := o1) (c := some (.lf (.lst (rowsD (rowsOf (rep (2 * many) cs) (up n)))))) (d := some (.lf (.int p))) (o7 := o7) (o8 := none) hpls.symm (by omega)
      simp at h8
      have ih := outer2 M hn hm o1 ps (mxr (fun k => pat n cs p k - 1) m (2 * many * cs.length)) true (some (.lf (.int p))) (some (.lf (.lst (nums pls)))) (some (.lf (.int (rn (fun k => pat n cs p k - 1) (2 * many * cs.length) : Nat)))) o fun q hq => h q (by simp [hq])
      cases b <;> simp [body2, h0, h2, h5, h7, h8, h10] <;> exact ih
theorem stays_same {s1 s2 : Nat → Nat → Option Nat} : ∀ {ps : List Nat} {m : Nat}, (∀ p ∈ ps, ∀ m, s1 p m = s2 p m) → stays s1 ps m = stays s2 ps m
  | [], m, h => rfl
  | p :: ps, m, h => by
    have ih := fun m' => stays_same (s1 := s1) (s2 := s2) (ps := ps) (m := m') fun q hq => h q (by simp [hq])
    simp only [stays, h p (by simp)]
    cases s2 p m with
    | none => rfl
    | some m' => exact ih m'
theorem lstay_ok (M : Meth n cs) (hn : n ≤ 8) : F__law_stay [.lf (methD n cs)] = some (resT (stays (st1 n cs) (up n) 0), [.lf (methD n cs)]) := by
  refine (fn_ev rfl fun R hR => ?_).eq
  obtain ⟨many, m1, m2, m3, m4⟩ := order_ok (n := n) (cs := cs) hn
  have hc : 0 < cs.length := List.length_pos_iff.mpr M.some
  have h1 := rounds_l hn
  have h2 := rows_l M hn
  have hb : 2 * many * cs.length ≤ 30 * 100 := Nat.mul_le_mul (by omega) M.short
  have h3 : F__law_rows [.lf (rowD (up n)), .lf (chsD (rep (2 * many) cs))] = some (.lst (rowsD (rowsOf (rep (2 * many) cs) (up n))), [.lf (rowD (up n)), .lf (chsD (rep (2 * many) cs))]) := by
    rw [e_lrows]
    exact lawRows_ok (fun s hs => by rw [up_len]; exact M.wid s (rep_mem hs)) (by simp; omega) (by rw [rep_len]; omega)
  have hl : cs.length * many ≤ 100 * 15 := Nat.mul_le_mul M.short m2
  have hl' : many * cs.length ≤ 15 * 100 := Nat.mul_le_mul m2 M.short
  have h4 : mulD (chsD cs) (.int many) = some (.lf (chsD (rep many cs))) := mul_chs (by omega) (by omega)
  have h5 : mulD (chsD (rep many cs)) (.int 2) = some (.lf (chsD (rep (2 * many) cs))) := by
    have := mul_chs (cs := rep many cs) (m := 2) (by rw [rep_len]; omega) (by omega)
    rwa [rep_rep] at this
  have h6 : rangeD [.int 1, .int (n + 1)] = some (.lf (.rng 1 (n + 1) 1 n)) := by
    have := rangeD_two (a := 1) (b := n + 1) (by omega) (by omega) (by omega) (by omega)
    simpa using this
  have h7 := nums_rng (a := 1) (n := n)
  obtain ⟨q, e, hq⟩ := outer2 (many := many) M hn m2 (some (.lf (.int many))) (up n) 0 false none none none none fun p hp => mem_up.mp hp
  rw [show stays (st2 n cs many) (up n) 0 = stays (st1 n cs) (up n) 0 from stays_same fun p hp m => stp_same hc (mem_up.mp hp) (lenOf_ok (mem_up.mp hp)) m1 (m3 p (mem_up.mp hp))] at hq
  unfold body2 at e
  have h8 : (rngI 1 1 n).map D.int = nums (up n) := h7
  simp at e
  simp [m__law_stay, h1, h2, rowsD_last, m4, h4, h5, h3, h6, h8, e]
  cases hs : stays (st1 n cs) (up n) 0 with
  | none =>
    rw [hs] at hq
    obtain ⟨ρ, rfl⟩ := hq
    simp
    exact .of (hR _ ⟨_, _, rfl, rfl, by rw [hs]; rfl⟩)
  | some m =>
    rw [hs] at hq
    obtain ⟨a1, a2, ρ, rfl⟩ := hq
    simp
    exact .of (hR _ ⟨_, _, rfl, rfl, by rw [hs]; rfl⟩)
/-! ### kinds -/
theorem e_head : F_lead_head = F_lead_head := rfl
theorem head_ok (M : Meth n cs) (hn : n ≤ 8) : F_lead_head [.lf (methD n cs)] = some (.lf (rowD (hd n cs)), [.lf (methD n cs)]) := by
  refine (fn_ev rfl fun R hR => ?_).eq
  have h1 := rounds_f hn
  have h2 : F_last_row [.lf (rowD (up n)), .lf (chsD cs)] = some (.lf (rowD (hd n cs)), [.lf (rowD (up n)), .lf (chsD cs)]) := by
    rw [e_lastRow]
    exact lastRow_ok (by simpa using M.wid) (by simp; omega) (by have := M.short; omega)
  simp [m_lead_head, h1, h2]
  exact .of (hR _ ⟨_, _, rfl, rfl, rfl⟩)
def fix (n : Nat) (cs : List (List Bool)) : List Nat := (up n).filter fun b => (hd n cs).getD (b - 1) 0 == b
theorem hd_at {b : Nat} (hb : 1 ≤ b ∧ b ≤ n) : atI (nums (hd n cs)) ((b : Int) - 1) = some (.int ((hd n cs).getD (b - 1) 0 : Nat)) := by
  have h1 := (Row.hd (n := n) (cs := cs)).len
  rw [atI_nums (n := b - 1) (by omega) (by omega)]
  simp [List.getElem?_eq_getElem (show b - 1 < (hd n cs).length by omega)]
theorem hunt_ok (M : Meth n cs) (hn : n ≤ 8) : F_hunt_bells [.lf (methD n cs)] = some (.lst (nums (fix n cs)), [.lf (methD n cs)]) := by
  refine (fn_ev rfl fun R hR => ?_).eq
  have h1 := rounds_f hn
  have h2 := head_ok M hn
  have e : cRun [2] (gNm 2) (dBl (dBin eqD (dBinO ixD (dSl 1) (dO (dBin subD (dVar 2) (dC (.int 1))))) (dVar 2))) (dVar 2) (nums (up n)) [] [some (.lf (methD n cs)), some (.lf (.tup (nums (hd n cs)))), none] = some (nums (fix n cs), [some (.lf (methD n cs)), some (.lf (.tup (nums (hd n cs)))), none]) :=
    cRun_fil (bs := up n) (e := fun b : Nat => D.int (b : Int)) (p := fun b => (hd n cs).getD (b - 1) 0 == b) (k := fun b : Nat => D.int (b : Int)) (by simp; omega) (by
      intro b hb es acc hacc
      have h3 := hd_at (cs := cs) (mem_up.mp hb)
      by_cases h4 : (hd n cs).getD (b - 1) 0 = b
      · simp only [h4] at h3 ⊢
        simp [h3, xC3_ev hacc]
      · have h5 : ((((hd n cs).getD (b - 1) 0 : Nat) : Int) == (b : Int)) = false := by
          rw [beq_false_of_ne]; omega
        have h6 : ((hd n cs).getD (b - 1) 0 == b) = false := beq_false_of_ne h4
        generalize (hd n cs).getD (b - 1) 0 = x at h3 h5 h6 ⊢
        simp [h3, h5, h6])
  simp [m_hunt_bells, h1, h2, rowD, e]
  exact .of (hR _ ⟨_, _, rfl, rfl, rfl⟩)
def kindS (n : Nat) (cs : List (List Bool)) : D :=
  if fix n cs = [] then .str "principle" else if (pth n cs 1).dropLast = up n ++ (up n).reverse then .str "hunter"
  else if 1 ∈ fix n cs ∧ n ∉ pth n cs 1 then .str "little" else .str "other"
theorem kind_ok (M : Meth n cs) (hn : n ≤ 8) (hn1 : 1 ≤ n) : F_kind_of [.lf (methD n cs)] = some (.lf (kindS n cs), [.lf (methD n cs)]) := by
  refine (fn_ev rfl fun R hR => ?_).eq
  have h1 := hunt_ok M hn
  have h2 := path_ok (p := 1) M hn ⟨by omega, hn1⟩
  have h3 : rangeD [.int 1, .int (n + 1)] = some (.lf (.rng 1 (n + 1) 1 n)) := by
    have := rangeD_two (a := 1) (b := n + 1) (by omega) (by omega) (by omega) (by omega)
    simpa using this
  have h4 : rangeD [.int n, .int 0, .int (-1)] = some (.lf (.rng n 0 (-1) n)) := by
    have := rangeD_down (a := n) (b := 0) (by omega) (by omega) (by omega) (by omega)
    simpa using this
  have h5 : listD (.rng 1 (n + 1) 1 n) = some (.lst (nums (up n))) := by
    rw [listD_rng (by omega)]
    have := nums_rng (a := 1) (n := n)
    exact congrArg (fun x => some (T.lst x)) this
  have h6 : listD (.rng n 0 (-1) n) = some (.lst (nums (up n).reverse)) := by
    rw [listD_rng (by omega), nums_down]
    rfl
  have h7 : addD (.lst (nums (up n))) (.lst (nums (up n).reverse)) = some (.lst (nums (up n ++ (up n).reverse))) := by
    rw [addD_lst (le_size (by simp; omega)), nums_app]
  have hne : pth n cs 1 ≠ [] := by
    intro e
    have := pth_len (n := n) (p := 1) (cs := cs)
    rw [e] at this
    simp at this
  obtain ⟨z, h8, h9, h10⟩ := max_nums hne
  have h11 : decide (z < n) = decide (n ∉ pth n cs 1) := by
    have hz := (pth_in ⟨by omega, hn1⟩ h9).2
    rw [decide_eq_decide]
    constructor
    · intro h k
      have := h10 n k
      omega
    · intro h
      rcases Nat.lt_or_eq_of_le hz with k | k
      · exact k
      · exact absurd (k ▸ h9) h
  have h12 := has_lst (r := fix n cs) (n := 1) (b := false)
  simp [m_kind_of, h1]
  by_cases c1 : fix n cs = []
  · simp [c1]
    exact .of (hR _ ⟨_, _, rfl, rfl, by simp [kindS, c1]⟩)
  · have c1' : (fix n cs).isEmpty = false := by simpa using c1
    simp at h2 h12
    simp [c1', h2, h3, h4, h5, h6, h7, nums_but, eqD_lst]
    by_cases c2 : (pth n cs 1).dropLast = up n ++ (up n).reverse
    · simp [c2]
      exact .of (hR _ ⟨_, _, rfl, rfl, by simp [kindS, c1, c2]⟩)
    · have c2' : ((pth n cs 1).dropLast == up n ++ (up n).reverse) = false := beq_false_of_ne c2
      simp [c2', h1]
      by_cases c3 : 1 ∈ fix n cs
      · simp [c3] at h12
        simp [h12, h8, h11]
        by_cases c4 : n ∈ pth n cs 1
        · simp [c4]
          exact .of (hR _ ⟨_, _, rfl, rfl, by simp [kindS, c1, c2, c4]⟩)
        · simp [c4]
          exact .of (hR _ ⟨_, _, rfl, rfl, by simp [kindS, c1, c2, c3, c4]⟩)
      · simp [c3] at h12
        simp [h12]
        exact .of (hR _ ⟨_, _, rfl, rfl, by simp [kindS, c1, c2, c3]⟩)
theorem lkind_ok (M : Meth n cs) (hn : n ≤ 8) (hn1 : 1 ≤ n) : F__law_kind [.lf (methD n cs)] = some (.lf (kindS n cs), [.lf (methD n cs)]) := by
  refine (fn_ev rfl fun R hR => ?_).eq
  have h1 := rows_l M hn
  have h2 := rounds_l hn
  have h3 : rangeD [.int 1, .int (n + 1)] = some (.lf (.rng 1 (n + 1) 1 n)) := by
    have := rangeD_two (a := 1) (b := n + 1) (by omega) (by omega) (by omega) (by omega)
    simpa using this
  have h5 : listD (.rng 1 (n + 1) 1 n) = some (.lst (nums (up n))) := by
    rw [listD_rng (by omega)]
    have := nums_rng (a := 1) (n := n)
    exact congrArg (fun x => some (T.lst x)) this
  have h8 : (rngI 1 1 n).map D.int = nums (up n) := nums_rng (a := 1) (n := n)
  have h7 : addD (.lst (nums (up n))) (.lst (nums (up n).reverse)) = some (.lst (nums (up n ++ (up n).reverse))) := by
    rw [addD_lst (le_size (by simp; omega)), nums_app]
  have e1 : ∀ o3 o4 : Option T, cRun [5] (gNm 5) (dBl (dBin eqD (dBinO ixD (dO (dBinO ixD (dSl 1) (dO (dUn negD (dC (.int 1)))))) (dO (dBin subD (dVar 5) (dC (.int 1))))) (dVar 5))) (dVar 5) (nums (up n)) [] [some (.lf (methD n cs)), some (.lst (rowsD (rowsOf cs (up n)))), none, o3, o4, none, none] = some (nums (fix n cs), [some (.lf (methD n cs)), some (.lst (rowsD (rowsOf cs (up n)))), none, o3, o4, none, none]) := fun o3 o4 =>
    cRun_fil (bs := up n) (e := fun b : Nat => D.int (b : Int)) (p := fun b => (hd n cs).getD (b - 1) 0 == b) (k := fun b : Nat => D.int (b : Int)) (by simp; omega) (by
      intro b hb es acc hacc
      have h3 := hd_at (cs := cs) (mem_up.mp hb)
      have h0 := rowsD_last (n := n) (cs := cs)
      by_cases h4 : (hd n cs).getD (b - 1) 0 = b
      · simp only [h4] at h3 ⊢
        simp [h0, rowD, h3, xC3_ev hacc]
      · have h5 : ((((hd n cs).getD (b - 1) 0 : Nat) : Int) == (b : Int)) = false := by
          rw [beq_false_of_ne]; omega
        have h6 : ((hd n cs).getD (b - 1) 0 == b) = false := beq_false_of_ne h4
        generalize (hd n cs).getD (b - 1) 0 = x at h3 h5 h6 ⊢
        simp [h0, rowD, h3, h5, h6])
  have e2 : cRun [6] (gNm 6) dYes (dBin addD (dM indexA (dSl 6) (dConsA (dC (.int 1)) dNilA)) (dC (.int 1))) (rowsD (rowsOf cs (up n))) [] [some (.lf (methD n cs)), some (.lf (.lst (rowsD (rowsOf cs (up n))))), some (.lst (nums (fix n cs))), none, none, none, none] = some (nums (pth n cs 1), [some (.lf (methD n cs)), some (.lf (.lst (rowsD (rowsOf cs (up n))))), some (.lst (nums (fix n cs))), none, none, none, none]) := by
    refine (cRun_one (bs := rowsOf cs (up n)) (e := rowD) (k := fun r => D.int ((pos r 1 : Nat) : Int)) (by rw [rowsOf_len]; have := M.short; omega) (by
      intro r hr es acc hacc
      have h3 := Row.rows Row.up r hr
      have h4 := index_row (p := 1) h3 ⟨by omega, hn1⟩
      simp at h4
      simp [h4, xC3_ev hacc]
      rfl)).trans ?_
    simp [nums, pth, Function.comp_def]
  have h12 := has_lst (r := fix n cs) (n := 1) (b := false)
  have h13 := has_lst (r := pth n cs 1) (n := n) (b := true)
  have h14 : (nums (fix n cs)).length = 0 ↔ fix n cs = [] := by simp
  simp [m__law_kind, h1, h2, h3, h8, e1]
  by_cases c1 : fix n cs = []
  · simp [c1]
    exact .of (hR _ ⟨_, _, rfl, rfl, by simp [kindS, c1]⟩)
  · have c1' : (((fix n cs).length : Int) == 0) = false := by
      rw [beq_false_of_ne]
      intro h
      exact c1 (List.length_eq_zero_iff.mp (by omega))
    simp at h12
    simp [c1', e2, h3, h5, h7, nums_but, nums_rev, eqD_lst]
    by_cases c2 : (pth n cs 1).dropLast = up n ++ (up n).reverse
    · simp [c2]
      exact .of (hR _ ⟨_, _, rfl, rfl, by simp [kindS, c1, c2]⟩)
    · have c2' : ((pth n cs 1).dropLast == up n ++ (up n).reverse) = false := beq_false_of_ne c2
      simp [c2']
      by_cases c3 : 1 ∈ fix n cs
      · simp [c3] at h12
        simp [h12, h13]
        by_cases c4 : n ∈ pth n cs 1
        · simp [c4]
          exact .of (hR _ ⟨_, _, rfl, rfl, by simp [kindS, c1, c2, c4]⟩)
        · simp [c4]
          exact .of (hR _ ⟨_, _, rfl, rfl, by simp [kindS, c1, c2, c3, c4]⟩)
      · simp [c3] at h12
        simp [h12]
        exact .of (hR _ ⟨_, _, rfl, rfl, by simp [kindS, c1, c2, c3]⟩)
end Lk05

set_option Elab.async false
set_option linter.all false
set_option maxRecDepth 100000
set_option maxHeartbeats 4000000
namespace Lk05
open PySem PySem.Spec L2 VI
open PyProof.Rows hiding St
variable {n : Nat}
theorem e_all : F__law_all_changes = fAllCh := rfl
theorem change_ok {t : T} (B : Box t) (h3 : 3 ≤ n) (h8 : n ≤ 8) : Ev (fun q => ∃ t' s, Box t' ∧ wid s = n ∧ q = (.lf (chD s), [t', .lf (.int n)])) (F__law_change [t, .lf (.int n)]) := by
  refine fn_ev rfl fun R hR => ?_
  have h1 := allCh_ok (n := n) (by omega)
  rw [← e_all] at h1
  obtain ⟨ss, e, hs, hl, hc⟩ := sort_chs (cs := don n (n + 1))
  rw [e] at h1
  have hsz := size_fd (n := n) (n + 1)
  have hp : 2 ^ (n + 1) ≤ 2 ^ 9 := Nat.pow_le_pow_right (by decide) (by omega)
  have e2 : cRun [3] (gNm 3) (dBl (dBin ltD (dCB (on1 lenD) (dConsL (dSl 3) dNilL)) (dVar 1))) (dVar 3) (ss.map chD) [] [some t, some (.lf (.int n)), none, none] = some ((ss.filter fun s => decide ((plc 0 s).length < n)).map chD, [some t, some (.lf (.int n)), none, none]) :=
    cRun_fil (bs := ss) (e := chD) (p := fun s => decide ((plc 0 s).length < n)) (k := chD) (by omega) (by
      intro s hs es acc hacc
      by_cases h : (plc 0 s).length < n
      · simp [chD, h, xC3_ev hacc]
      · simp [chD, h])
  obtain ⟨s0, hs0, hs0'⟩ := few_places h3 h8
  obtain ⟨t0, ht0, e0⟩ := hc s0 hs0
  have hne : 0 < (ss.filter fun s => decide ((plc 0 s).length < n)).length := List.length_pos_of_mem (List.mem_filter.mpr ⟨ht0, by simpa [e0] using hs0'⟩)
  generalize hL : (ss.filter fun s => decide ((plc 0 s).length < n)) = L at e2 hne
  have hL2 : ∀ s ∈ L, wid s = n := fun s h => by
    rw [← hL] at h
    exact don_wid (hs s (List.mem_filter.mp h).1)
  obtain ⟨q, e3, t', v, B', hv, rfl⟩ := next_ok B (m := (L.length : Int)) (by omega)
  rw [← e_next] at e3
  have hv' : v < L.length := by omega
  have h4 : atI (L.map chD) (v : Int) = some (chD L[v]) := by
    rw [atI_nat (n := v) rfl (by simpa using hv')]
    simp
  have ho := B.own
  obtain ⟨ns, a, b1, b2, rfl⟩ := B
  obtain ⟨ns', a', b1', b2', rfl⟩ := B'
  simp [m__law_change, h1, e2, e3, h4]
  exact .of (hR _ ⟨_, _, rfl, rfl, _, L[v], ⟨ns', a', b1', b2', rfl⟩, hL2 _ (List.getElem_mem hv'), rfl⟩)
theorem meth_ok {t : T} (B : Box t) (h3 : 3 ≤ n) (h8 : n ≤ 8) : Ev (fun q => ∃ t' cs, Box t' ∧ Meth n cs ∧ q = (.lf (methD n cs), [t', .lf (.int n), .lf (.int 4)])) (F__law_method [t, .lf (.int n), .lf (.int 4)]) := by
  refine fn_ev rfl fun R hR => ?_
  obtain ⟨q, e1, t1, v, B1, hv, rfl⟩ := next_ok B (m := 4) (by decide)
  rw [← e_next] at e1
  have hr : rangeD [.int (1 + v)] = some (.lf (.rng 0 (1 + v) 1 (1 + v))) := by
    rw [rangeD_one (by omega) (by omega)]
    congr 3
  have ho := B.own
  have ho1 := B1.own
  obtain ⟨na, a, a1, a2, rfl⟩ := B
  obtain ⟨nb, b, b1, b2, rfl⟩ := B1
  simp [m__law_method, e1, hr]
  generalize hF : cRun _ _ _ _ _ _ _ = F
  obtain ⟨acc, ρ', ⟨t2, cs, B2, hl, hw, rfl, rfl⟩, rfl⟩ := cRun_inv hF (fun i acc ρ => ∃ t2 cs, Box t2 ∧ cs.length = i ∧ (∀ s ∈ cs, wid s = n) ∧ acc = cs.map chD ∧ ρ = [some t2, some (.lf (.int n)), some (.lf (.int 4)), none, none]) (by simp; omega) (by
      rintro i acc ρ ⟨t2, cs, _, hl, _, rfl, _⟩
      simp [hl]) ⟨_, [], ⟨nb, b, b1, b2, rfl⟩, rfl, by simp, rfl, rfl⟩ (by
      rintro i hi acc ρ es R hR ⟨t2, cs, B2, hl, hw, rfl, rfl⟩ hacc
      obtain ⟨q, e2, t3, s, B3, hs, rfl⟩ := change_ok B2 h3 h8
      obtain ⟨nc, c, c1, c2, rfl⟩ := B2
      obtain ⟨nd, d, d1, d2, rfl⟩ := B3
      simp at hacc
      simp [e2]
      rw [xC3_ev (by simpa using hacc)]
      simp
      exact .of (hR _ _ ⟨_, cs ++ [s], ⟨nd, d, d1, d2, rfl⟩, by simp [hl], by
        intro x hx
        simp at hx
        rcases hx with hx | rfl
        · exact hw x hx
        · exact hs, by simp, rfl⟩))
  obtain ⟨q, e2, t3, v2, B3, hv2, rfl⟩ := next_ok B2 (m := 2) (by decide)
  rw [← e_next] at e2
  have hv' : v < 4 := by omega
  have hlen : cs.length = 1 + v := by simpa using hl
  obtain ⟨nc, c, c1, c2, rfl⟩ := B2
  by_cases hz : v2 = 0
  · subst hz
    obtain ⟨q, e3, t4, s, B4, hs, rfl⟩ := change_ok B3 h3 h8
    obtain ⟨nd, d, d1, d2, rfl⟩ := B3
    obtain ⟨ne, e, ee1, ee2, rfl⟩ := B4
    simp at e2
    simp [e2, e3]
    rw [addD_tup (le_size (by simp; omega))]
    simp [e3]
    rw [addD_tup (le_size (by simp; omega))]
    simp
    refine .of (hR _ ⟨_, _, rfl, rfl, _, cs ++ cs.dropLast.reverse ++ [s], ⟨ne, e, ee1, ee2, rfl⟩, ⟨?_, by simp, by simp; omega⟩, ?_⟩)
    · intro x hx
      simp only [List.mem_append, List.mem_reverse, List.mem_singleton] at hx
      rcases hx with (hx | hx) | rfl
      · exact hw x hx
      · exact hw x ((List.dropLast_sublist _).subset hx)
      · exact hs
    · simp [methD, chsD, List.map_dropLast]
  · have hz' : ((v2 : Int) == 0) = false := by simp; omega
    obtain ⟨nd, d, d1, d2, rfl⟩ := B3
    simp [e2, hz']
    exact .of (hR _ ⟨_, _, rfl, rfl, _, cs, ⟨nd, d, d1, d2, rfl⟩, ⟨hw, by intro h; rw [h] at hlen; simp at hlen; omega, by omega⟩, rfl⟩)
end Lk05

set_option Elab.async false
set_option linter.all false
set_option maxRecDepth 100000
set_option maxHeartbeats 4000000
namespace Lk05
open PySem PySem.Spec L2 VI
open PyProof.Rows hiding St
def phunt (n : Nat) : List (List Bool) := if n % 2 = 0 then rep n [List.replicate (n / 2) false, true :: List.replicate (n / 2 - 1) false ++ [true]] else rep n [List.replicate (n / 2) false ++ [true], true :: List.replicate (n / 2) false]
def pbob (n : Nat) : List (List Bool) := (phunt n).dropLast ++ [if n % 2 = 0 then true :: true :: List.replicate (n / 2 - 1) false else true :: true :: List.replicate (n / 2 - 1) false ++ [true]]
def cover (cs : List (List Bool)) : List (List Bool) := cs.map fun s => s ++ [true]
theorem hunt_one {n : Nat} (h : n ≤ 100) (a b : List Bool) (da db : D) (ea : chD a = da) (eb : chD b = db) : mulD (.tup [da, db]) (.int n) = some (.lf (chsD (rep n [a, b]))) := by
  have := mul_chs (cs := [a, b]) (m := n) (by simp; omega) (by omega)
  rw [← ea, ← eb]
  exact this
theorem phunt_ok {n : Nat} (h3 : 3 ≤ n) (h8 : n ≤ 8) : F_plain_hunt [.lf (.int n)] = some (.lf (methD n (phunt n)), [.lf (.int n)]) := by
  have : n = 3 ∨ n = 4 ∨ n = 5 ∨ n = 6 ∨ n = 7 ∨ n = 8 := by omega
  rcases this with rfl | rfl | rfl | rfl | rfl | rfl
  · have e := hunt_one (n := 3) (by decide) [false, true] [true, false] (.tup [.int 3]) (.tup [.int 1]) rfl rfl
    refine (fn_ev rfl fun R hR => ?_).eq
    simp at e
    simp [m_plain_hunt, modD_int, e]
    exact .of (hR _ ⟨_, _, rfl, rfl, rfl⟩)
  · have e := hunt_one (n := 4) (by decide) [false, false] [true, false, true] (.tup []) (.tup [.int 1, .int 4]) rfl rfl
    refine (fn_ev rfl fun R hR => ?_).eq
    simp at e
    simp [m_plain_hunt, modD_int, e]
    exact .of (hR _ ⟨_, _, rfl, rfl, rfl⟩)
  · have e := hunt_one (n := 5) (by decide) [false, false, true] [true, false, false] (.tup [.int 5]) (.tup [.int 1]) rfl rfl
    refine (fn_ev rfl fun R hR => ?_).eq
    simp at e
    simp [m_plain_hunt, modD_int, e]
    exact .of (hR _ ⟨_, _, rfl, rfl, rfl⟩)
  · have e := hunt_one (n := 6) (by decide) [false, false, false] [true, false, false, true] (.tup []) (.tup [.int 1, .int 6]) rfl rfl
    refine (fn_ev rfl fun R hR => ?_).eq
    simp at e
    simp [m_plain_hunt, modD_int, e]
    exact .of (hR _ ⟨_, _, rfl, rfl, rfl⟩)
  · have e := hunt_one (n := 7) (by decide) [false, false, false, true] [true, false, false, false] (.tup [.int 7]) (.tup [.int 1]) rfl rfl
    refine (fn_ev rfl fun R hR => ?_).eq
    simp at e
    simp [m_plain_hunt, modD_int, e]
    exact .of (hR _ ⟨_, _, rfl, rfl, rfl⟩)
  · have e := hunt_one (n := 8) (by decide) [false, false, false, false] [true, false, false, false, true] (.tup []) (.tup [.int 1, .int 8]) rfl rfl
    refine (fn_ev rfl fun R hR => ?_).eq
    simp at e
    simp [m_plain_hunt, modD_int, e]
    exact .of (hR _ ⟨_, _, rfl, rfl, rfl⟩)
theorem pbob_run {n : Nat} {cs : List (List Bool)} {l : List Bool} (hp : F_plain_hunt [.lf (.int n)] = some (.lf (methD n cs), [.lf (.int n)])) (hl : cs.length ≤ 100)
    (hd : (if n % 2 = 0 then D.tup [.int 1, .int 2] else D.tup [.int 1, .int 2, .int n]) = chD l) : F_plain_bob [.lf (.int n)] = some (.lf (methD n (cs.dropLast ++ [l])), [.lf (.int n)]) := by
  refine (fn_ev rfl fun R hR => ?_).eq
  have h1 : modD (.int n) (.int 2) = some (.lf (.int ((n % 2 : Nat) : Int))) := by
    rw [modD_int (by decide)]
    rfl
  have e : ∀ x, addD (.tup (cs.map chD).dropLast) (.tup [x]) = some (.lf (.tup ((cs.map chD).dropLast ++ [x]))) := fun x => addD_tup (le_size (by simp; omega))
  have hmd : methD n (cs.dropLast ++ [l]) = .tup [.int n, .tup ((cs.map chD).dropLast ++ [chD l])] := by simp [methD, chsD, List.map_dropLast]
  by_cases h : n % 2 = 0
  · rw [if_pos h] at hd
    rw [h] at h1
    simp at h1
    simp [m_plain_bob, hp, h1, chsD, e]
    exact .of (hR _ ⟨_, _, rfl, rfl, by rw [hmd, ← hd]⟩)
  · rw [if_neg h] at hd
    have h' : n % 2 = 1 := by omega
    rw [h'] at h1
    simp at h1
    simp [m_plain_bob, hp, h1, chsD, e]
    exact .of (hR _ ⟨_, _, rfl, rfl, by rw [hmd, ← hd]⟩)
theorem pbob_ok {n : Nat} (h3 : 3 ≤ n) (h8 : n ≤ 8) : F_plain_bob [.lf (.int n)] = some (.lf (methD n (pbob n)), [.lf (.int n)]) := by
  refine pbob_run (phunt_ok h3 h8) ?_ ?_
  · have : n = 3 ∨ n = 4 ∨ n = 5 ∨ n = 6 ∨ n = 7 ∨ n = 8 := by omega
    rcases this with rfl | rfl | rfl | rfl | rfl | rfl <;> decide
  · have : n = 3 ∨ n = 4 ∨ n = 5 ∨ n = 6 ∨ n = 7 ∨ n = 8 := by omega
    rcases this with rfl | rfl | rfl | rfl | rfl | rfl <;> rfl
theorem meths {n : Nat} (h3 : 3 ≤ n) (h8 : n ≤ 8) : Meth n (phunt n) ∧ Meth n (pbob n) ∧ (n ≤ 7 → Meth (n + 1) (cover (pbob n))) := by
  have : n = 3 ∨ n = 4 ∨ n = 5 ∨ n = 6 ∨ n = 7 ∨ n = 8 := by omega
  rcases this with rfl | rfl | rfl | rfl | rfl | rfl <;> exact ⟨⟨by decide, by decide, by decide⟩, ⟨by decide, by decide, by decide⟩, fun _ => ⟨by decide, by decide, by decide⟩⟩
theorem cover_ok {n : Nat} {cs : List (List Bool)} (M : Meth n cs) (hn : n ≤ 8) : F_with_cover [.lf (methD n cs)] = some (.lf (methD (n + 1) (cover cs)), [.lf (methD n cs)]) := by
  refine (fn_ev rfl fun R hR => ?_).eq
  have e : cRun [3] (gNm 3) dYes (dBin addD (dVar 3) (dTup (dConsA (dBin addD (dVar 1) (dC (.int 1))) dNilA))) (cs.map chD) [] [some (.lf (methD n cs)), some (.lf (.int n)), some (.lf (chsD cs)), none] = some (cs.map (fun s => chD (s ++ [true])), [some (.lf (methD n cs)), some (.lf (.int n)), some (.lf (chsD cs)), none]) :=
    cRun_one (bs := cs) (e := chD) (k := fun s => chD (s ++ [true])) (by have := M.short; omega) (by
      intro s hs es acc hacc
      have hw := M.wid s hs
      have hl := plc_len (k := 0) (s := s)
      have h1 : addD (chD s) (.tup [.int ((n : Int) + 1)]) = some (.lf (chD (s ++ [true]))) := by
        show addD (.tup (nums (plc 0 s))) _ = some (.lf (.tup (nums (plc 0 (s ++ [true])))))
        rw [addD_tup (le_size (by simp; omega)), ← plc_true, hw]
      simp [h1, xC3_ev hacc])
  have hg : gTp 2 (gCn (gNm 1) (gCn (gNm 2) gNl)) (methD n cs) [some (.lf (methD n cs)), none, none, none] = some [some (.lf (methD n cs)), some (.lf (.int n)), some (.lf (chsD cs)), none] := rfl
  have hi : iterD (chsD cs) = some (cs.map chD) := rfl
  simp [m_with_cover, hg, hi, e]
  exact .of (hR _ ⟨_, _, rfl, rfl, by simp [methD, chsD, cover, Function.comp_def]⟩)
end Lk05

set_option Elab.async false
set_option linter.all false
set_option maxRecDepth 100000
set_option maxHeartbeats 4000000
namespace Lk05
open PySem PySem.Spec L2 VI
open PyProof.Rows hiding St
variable {n : Nat} {cs : List (List Bool)}
/-- the checks of one round -/
noncomputable def bodyC : DenS := (sSeq (sSet 6 (dCall F__law_rows (dConsL (dO (dCall F__law_rounds (dConsL (dSl 3) dNilL))) (dConsL (dO (dBinO ixD (dSl 4) (dO (dC (.int 1))))) dNilL)))) (sSeq (sSet 7 (dCall F_path_of (dConsL (dSl 4) (dConsL (dSl 5) dNilL)))) (sSeq (dIf (dOr (dNot (dTru (dO (dCB (isiD) (dConsL (dSl 7) (dConsL (dO (dC (.ty "list"))) dNilL)))))) (dBl (dBin neD (dVar 7) (dComp [11] (dIter (dVar 6)) (gNm 11) dYes (dBin addD (dM indexA (dSl 11) (dConsA (dVar 5) dNilA)) (dC (.int 1))))))) (sSeq (sRet (dC (.bl false))) sNil) sNil) (sSeq (sAsgG (dCall F__law_places (dConsL (dSl 4) (dConsL (dSl 5) dNilL))) (gTp 2 (gCn (gNm 8) (gCn (gNm 9) gNl)))) (sSeq (dIf (dOr (dBl (dBin neD (dCall F_line_of (dConsL (dSl 4) (dConsL (dSl 5) dNilL))) (dVar 8))) (dBl (dBin neD (dCall F_place_bells (dConsL (dSl 4) (dConsL (dSl 5) dNilL))) (dVar 9)))) (sSeq (sRet (dC (.bl false))) sNil) sNil) (sSeq (sSet 10 (dCall F_longest_stay (dConsL (dSl 4) dNilL))) (sSeq (dIf (dOr (dBl (dBin neD (dVar 10) (dCall F__law_stay (dConsL (dSl 4) dNilL)))) (dOr (dTru (dO (dCB (isiD) (dConsL (dSl 10) (dConsL (dO (dC (.ty "bool"))) dNilL))))) (dBl (dBin neD (dCall F_kind_of (dConsL (dSl 4) dNilL)) (dCall F__law_kind (dConsL (dSl 4) dNilL)))))) (sSeq (sRet (dC (.bl false))) sNil) sNil) sNil)))))))
theorem isi_list {r : List D} : isiD [.lst r, .ty "list"] = some (.lf (.bl true)) := by simp [isiD, tyOfD, isiB]
theorem isi_res {o : Option Nat} : isiD [(resT o).strip, .ty "bool"] = some (.lf (.bl false)) := by
  cases o <;> simp [resT, isiD, tyOfD, isiB]
theorem checks {p : Nat} (M : Meth n cs) (h1 : 1 ≤ n) (h8 : n ≤ 8) (hp : 1 ≤ p ∧ p ≤ n) (a b c o6 o7 o8 o9 o10 : Option T) :
    ∃ q6 q7 q8 q9 q10 : Option T, bodyC [a, b, c, some (.lf (.int n)), some (.lf (methD n cs)), some (.lf (.int p)), o6, o7, o8, o9, o10, none] = some (.nx, [a, b, c, some (.lf (.int n)), some (.lf (methD n cs)), some (.lf (.int p)), q6, q7, q8, q9, q10, none]) := by
  have L := lenOf_ok (n := n) (cs := cs) hp
  have e1 := rows_l M h8
  have e2 := rounds_l h8
  have e3 := path_ok M h8 hp
  have e4 := lplaces_ok M h8 hp L
  have e5 := line_ok M h8 hp L
  have e6 := bells_ok M h8 hp L
  have e7 := stay_ok M h8
  have e8 := lstay_ok M h8
  have e9 := kind_ok M h8 h1
  have e10 := lkind_ok M h8 h1
  have c1 : cRun [11] (gNm 11) dYes (dBin addD (dM indexA (dSl 11) (dConsA (dVar 5) dNilA)) (dC (.int 1))) (rowsD (rowsOf cs (up n))) [] [a, b, c, some (.lf (.int n)), some (.lf (methD n cs)), some (.lf (.int p)), some (.lf (.lst (rowsD (rowsOf cs (up n))))), some (.lf (.lst (nums (pth n cs p)))), o8, o9, o10, none] = some (nums (pth n cs p), [a, b, c, some (.lf (.int n)), some (.lf (methD n cs)), some (.lf (.int p)), some (.lf (.lst (rowsD (rowsOf cs (up n))))), some (.lf (.lst (nums (pth n cs p)))), o8, o9, o10, none]) := by
    refine (cRun_one (bs := rowsOf cs (up n)) (e := rowD) (k := fun r => D.int ((pos r p : Nat) : Int)) (by rw [rowsOf_len]; have := M.short; omega) (by
      intro r hr es acc hacc
      have h3 := Row.rows Row.up r hr
      have h4 := index_row (p := p) h3 hp
      simp [h4, xC3_ev hacc]
      rfl)).trans ?_
    simp [nums, pth, Function.comp_def]
  have k1 : neD (kindS n cs) (kindS n cs) = some (.lf (.bl false)) := by
    unfold kindS
    repeat' split
    all_goals (rw [neD_ev (by decide +kernel) (by decide +kernel)]; simp [eqv])
  simp [bodyC, e1, e2, e3, isi_list, c1, neD_lst, e4, e5, e6]
  cases hs : stays (st1 n cs) (up n) 0 with
  | none =>
    have i1 := isi_res (o := none)
    have i2 : neD .non .non = some (.lf (.bl false)) := neD_ev (by decide) (by decide)
    simp [hs, resT] at e7 e8 i1
    simp [e7, e8, i1, i2, e9, e10, k1]
  | some m =>
    have i1 := isi_res (o := some m)
    simp [hs, resT] at e7 e8 i1
    simp [e7, e8, i1, e9, e10, k1]
theorem box_some {t : T} (B : Box t) : ∃ ks ds, t = .dct ks ds := by
  obtain ⟨ns, a, _, _, rfl⟩ := B
  exact ⟨_, _, rfl⟩
theorem fin_ok {t : T} (B : Box t) (M : Meth n cs) (h1 : 1 ≤ n) (h8 : n ≤ 8) (a b o5 o6 o7 o8 o9 o10 : Option T) :
    ∃ t' q5 q6 q7 q8 q9 q10, Box t' ∧ sSeq (sSet 5 (dBin addD (dC (.int 1)) (dCall F__law_next (dConsL (dSl 1) (dConsL (dSl 3) dNilL))))) bodyC [a, some t, b, some (.lf (.int n)), some (.lf (methD n cs)), o5, o6, o7, o8, o9, o10, none] = some (.nx, [a, some t', b, some (.lf (.int n)), some (.lf (methD n cs)), q5, q6, q7, q8, q9, q10, none]) := by
  obtain ⟨q, e1, t1, v1, B1, hv1, rfl⟩ := next_ok B (m := n) (by omega)
  rw [← e_next] at e1
  obtain ⟨ks, ds, rfl⟩ := box_some B
  obtain ⟨q6, q7, q8, q9, q10, e2⟩ := checks (p := 1 + v1) M h1 h8 (by omega) a (some t1) b o6 o7 o8 o9 o10
  refine ⟨t1, some (.lf (.int (1 + v1 : Nat))), q6, q7, q8, q9, q10, B1, ?_⟩
  have hc : ((1 + v1 : Nat) : Int) = (1 : Int) + v1 := by omega
  rw [hc] at e2 ⊢
  simp [e1, e2]
theorem law_f : LawF F_law := by
  intro ns hns
  suffices H : Ev (fun q => ∃ ts', q = (.lf (.bl true), ts')) (F_law [.lf (.scr ns)]) by
    obtain ⟨q, e, ts', rfl⟩ := H
    exact ⟨ts', e⟩
  refine fn_ev rfl fun R hR => ?_
  obtain ⟨q, e0, t0, B0, rfl⟩ := box_ok hns
  rw [← e_box] at e0
  have hr : rangeD [.int 3] = some (.lf (.rng 0 3 1 3)) := rangeD_one (b := 3) (by decide) (by decide)
  obtain ⟨ks0, ds0, hb0⟩ := box_some B0
  subst hb0
  simp [m_law, e0, hr]
  generalize hF : fRun _ _ _ _ = F
  obtain ⟨ρ', ⟨t1, o2, o3, o4, o5, o6, o7, o8, o9, o10, B1, rfl⟩, rfl⟩ := fRun_inv hF (fun i ρ => ∃ (t : T) (o2 o3 o4 o5 o6 o7 o8 o9 o10 : Option T), Box t ∧ ρ = [some (.lf (.scr ns)), some t, o2, o3, o4, o5, o6, o7, o8, o9, o10, none])
    ⟨_, none, none, none, none, none, none, none, none, none, B0, rfl⟩ (by
      rintro i hi ρ es R hR ⟨t, o2, o3, o4, o5, o6, o7, o8, o9, o10, B, rfl⟩
      obtain ⟨q, e1, t1, v1, B1, hv1, rfl⟩ := next_ok B (m := 6) (by decide)
      rw [← e_next] at e1
      obtain ⟨ks, ds, rfl⟩ := box_some B
      have hn3 : 3 ≤ 3 + v1 := by omega
      have hn8 : 3 + v1 ≤ 8 := by omega
      have hcast : (3 : Int) + (v1 : Int) = ((3 + v1 : Nat) : Int) := by omega
      generalize hn : 3 + v1 = n at hn3 hn8 hcast
      have h5 : (rngI 0 1 3)[i]'(by simpa using hi) = (i : Int) := by simp [rngI]
      simp [e1, hcast, h5]
      obtain ⟨q, e2, t2, cs2, B2, M2, rfl⟩ := meth_ok B1 hn3 hn8
      obtain ⟨q, e3, t3, cs3, B3, M3, rfl⟩ := meth_ok B2 hn3 hn8
      have e4 := pbob_ok hn3 hn8
      have e5 := phunt_ok hn3 hn8
      obtain ⟨q, e6, t4, v4, B4, hv4, rfl⟩ := next_ok B3 (m := 4) (by decide)
      rw [← e_next] at e6
      obtain ⟨ks1, ds1, rfl⟩ := box_some B1
      obtain ⟨ks2, ds2, rfl⟩ := box_some B2
      obtain ⟨ks3, ds3, rfl⟩ := box_some B3
      obtain ⟨cs, M, pick⟩ : ∃ cs, Meth n cs ∧ atI [methD n cs2, methD n cs3, methD n (pbob n), methD n (phunt n)] (v4 : Int) = some (methD n cs) := by
        have : v4 = 0 ∨ v4 = 1 ∨ v4 = 2 ∨ v4 = 3 := by omega
        rcases this with rfl | rfl | rfl | rfl
        · exact ⟨cs2, M2, rfl⟩
        · exact ⟨cs3, M3, rfl⟩
        · exact ⟨pbob n, (meths hn3 hn8).2.1, rfl⟩
        · exact ⟨phunt n, (meths hn3 hn8).1, rfl⟩
      obtain ⟨ks4, ds4, hb4⟩ := box_some B4
      by_cases h3 : (3 : Int) < n
      · obtain ⟨q, e7, t5, v5, B5, hv5, rfl⟩ := next_ok B4 (m := 3) (by decide)
        rw [← e_next] at e7
        by_cases hz : v5 = 0
        · subst hz
          have e8 := pbob_ok (n := n - 1) (by omega) (by omega)
          have hc : (((n - 1 : Nat) : Int)) = (n : Int) - 1 := by omega
          rw [hc] at e8
          have M9 := (meths (n := n - 1) (by omega) (by omega)).2.2 (by omega)
          have e9 := cover_ok (meths (n := n - 1) (by omega) (by omega)).2.1 (by omega)
          rw [show n - 1 + 1 = n by omega] at M9 e9
          obtain ⟨t', q5, q6, q7, q8, q9, q10, B', fin⟩ := fin_ok B5 M9 (by omega) hn8 (some (.lf (.scr ns))) (some (.lf (.int (i : Nat)))) o5 o6 o7 o8 o9 o10
          unfold bodyC at fin
          subst hb4
          simp at fin e7
          simp [e2, e3, e4, e5, e6, pick, h3, e7, e8, e9, fin]
          exact .of (hR _ ⟨t', _, _, _, _, _, _, _, _, _, B', rfl⟩)
        · have hz' : ((v5 : Int) == 0) = false := by simp; omega
          obtain ⟨t', q5, q6, q7, q8, q9, q10, B', fin⟩ := fin_ok B5 M (by omega) hn8 (some (.lf (.scr ns))) (some (.lf (.int (i : Nat)))) o5 o6 o7 o8 o9 o10
          unfold bodyC at fin
          subst hb4
          simp at fin
          simp [e2, e3, e4, e5, e6, pick, h3, e7, hz', fin]
          exact .of (hR _ ⟨t', _, _, _, _, _, _, _, _, _, B', rfl⟩)
      · obtain ⟨t', q5, q6, q7, q8, q9, q10, B', fin⟩ := fin_ok B4 M (by omega) hn8 (some (.lf (.scr ns))) (some (.lf (.int (i : Nat)))) o5 o6 o7 o8 o9 o10
        unfold bodyC at fin
        subst hb4
        simp at fin
        simp [e2, e3, e4, e5, e6, pick, h3, fin]
        exact .of (hR _ ⟨t', _, _, _, _, _, _, _, _, _, B', rfl⟩))
  have k1 : kindS 6 (pbob 6) = .str "hunter" := by
    unfold kindS
    rw [if_neg (by decide +kernel), if_pos (by decide +kernel)]
  have k2 : kindS 5 (phunt 5) = .str "hunter" := by
    unfold kindS
    rw [if_neg (by decide +kernel), if_pos (by decide +kernel)]
  have k3 : kindS 6 (cover (pbob 5)) = .str "little" := by
    unfold kindS
    rw [if_neg (by decide +kernel), if_neg (by decide +kernel), if_pos (by decide +kernel)]
  have M6 := meths (n := 6) (by decide) (by decide)
  have M5 := meths (n := 5) (by decide) (by decide)
  have f1 := pbob_ok (n := 6) (by decide) (by decide)
  have f2 := phunt_ok (n := 5) (by decide) (by decide)
  have f3 := pbob_ok (n := 5) (by decide) (by decide)
  have f4 := cover_ok M5.2.1 (by decide)
  have g1 := kind_ok M6.2.1 (by decide) (by decide)
  have g2 := kind_ok M5.1 (by decide) (by decide)
  have g3 := kind_ok (n := 6) (M5.2.2 (by decide)) (by decide) (by decide)
  rw [k1] at g1
  rw [k2] at g2
  rw [k3] at g3
  have q1 : eqD (.str "hunter") (.str "hunter") = some (.lf (.bl true)) := by
    rw [eqD_ev (by decide +kernel) (by decide +kernel)]; simp [eqv]
  have q2 : eqD (.str "little") (.str "little") = some (.lf (.bl true)) := by
    rw [eqD_ev (by decide +kernel) (by decide +kernel)]; simp [eqv]
  simp at f1 f2 f3
  simp [f1, f2, f3, f4, g1, g2, g3, q1, q2]
  exact .of (hR _ ⟨_, _, rfl, rfl, _, rfl⟩)
end Lk05

theorem PySem.Challenge.cw_truepeals_k05_what_a_bell_does_in_a_meth_holds : PySem.Challenge.rw_truepeals_k05_what_a_bell_does_in_a_meth.Holds := by
  exact Lk05.holds_of Lk05.law_f
