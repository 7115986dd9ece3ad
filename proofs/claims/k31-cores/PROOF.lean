import PyProof.Rows.All
import Wide.All
import OpenK.AllK
import Wide.FinOn
import HandS.ForMost
import HandS.ForExc
import HandS.TupAny
import HandS.TupMul
import HandS.Style
import HandS.Deep
import HandS.RaiseMore
import HandS.NoneIn
import HandS.IsInst
import HandS.Zip
import HandS.More
import KE.SortData
import PyProof.TupleOfSeq
import HandS.Small
import HandS.Strs
import KE.KRevSl
import HandS.Iter
import KE.GoesEnum
import HandS.WordsExc
import HandS.Defaults
import HandS.ExcOwn
import HandS.Comp
import KE.KStateDown
import HandS.Words
import HandS.Head0
import HandS.Head1
import HandS.Head2
import HandS.HeadEnd
import HandS.HeadHook1
import HandS.HeadHook2
import HandS.HeadHook3
import HandS.EndBits
import HandS.SetFor
import HandS.Conv
import PySem.Challenge.RW_earthorder_k31_whole_cores_judged
set_option Elab.async false
set_option linter.all false
set_option maxRecDepth 100000
set_option maxHeartbeats 2000000
/-! Fw0: tuples whose one object is known (it has no dict): made by displays, +, *, slices, tuple(..). -/
namespace Fw
open PySem PySem.Spec PyProof.Rows L2
/-- a tuple of which it is known that its object has no dict -/
def TpX (K : PySem.W.Frag) (H : Hp) (a : Addr) (xs : List V) : Prop :=
  (∃ o : Obj, H a = some (.frz o (.tup xs)) ∧ o.dict = none) ∨
    ∃ (o : Obj) (its : Array Value) (n : Nat), K.lookup a = some o ∧ o.cls = .type "tuple" ∧ o.dict = none ∧ o.data = .seq its n ∧ its.size ≤ sizeLine ∧ Vals xs its.toList
theorem TpX.sq {K : PySem.W.Frag} {H : Hp} {a : Addr} {xs : List V} (h : TpX K H a xs) : SqT K H a xs := by
  rcases h with ⟨o, h, _⟩ | ⟨o, its, n, h1, h2, _, h3⟩
  · exact .inl (.inr ⟨o, h⟩)
  · exact .inr ⟨o, its, n, h1, h2, h3⟩
/-- a new tuple is given on -/
def NewT (H : Hp) (Q : VK) (xs : List V) : Prop := ∀ (p : Addr) (o : Obj), o.dict = none → H p = none → Q (.ref p) (upd H p (.frz o (.tup xs)))
def tTupE (t : TA) : TE := fun σ H Q => t σ H fun xs H1 => xs.length ≤ sizeLine ∧ NewT H1 Q xs
section
variable {X : Cx} {es : List Expr} {t : TA} {pos : Pos}
theorem invTupE {pins : List (Addr × Obj)} {σ : L2.St} {H : Hp} {s : Shared} {xs : List V} {its : List Value} (I : Inv X pins σ H s) (r : Vals xs its) (hz : xs.length ≤ sizeLine) :
    Inv X pins σ (upd H s.heap.objs.size (.frz { cls := .type "tuple", data := .seq its.toArray } (.tup xs))) { s with heap := s.heap.push { cls := .type "tuple", data := .seq its.toArray } } :=
  I.laid (t' := s.toks) (fun b u e => Heap.get?_push_of_some _ e) (Nat.le_refl _) (show ObjOk X.prog X.w _ _ _ (.frz _ (.tup xs)) from ⟨Heap.get?_push_size _ rfl, hz, its, r, ⟨_, Heap.get?_push_size _ rfl, rfl, _, rfl⟩⟩)
theorem pe_tupE {x1} (h : PA X es t) : PE X (.Tuple es x1 pos) (tTupE t) := by
  refine ⟨fun pins s σ H Q I hq => ?_⟩
  refine wpAny_Tuple_spliced (thn (h.run pos pins s σ H _ I hq) fun us s1 ⟨xs, H1, I1, r, z, q⟩ => ⟨by rw [← r.length]; exact z, ?_⟩)
  exact ⟨.ref _, _, invTupE I1 r z, rfl, q _ _ rfl (I1.hok.fresh (Nat.le_refl _))⟩
def rCatE (K : PySem.W.Frag) : R2 := fun x y H Q => ∃ a b xs ys, x = .ref a ∧ y = .ref b ∧ SqT K H a xs ∧ SqT K H b ys ∧ xs.length + ys.length ≤ sizeLine ∧
  (xs = [] → Q (.ref b) H) ∧ (xs ≠ [] → ys = [] → Q (.ref a) H) ∧ (xs ≠ [] → ys ≠ [] → NewT H Q (xs ++ ys))
theorem op_catE : OpR X (binaryOp .Add) (rCatE X.K) := by
  intro pins s σ H x y v u Q I rx ry h
  obtain ⟨a, b, xs, ys, rfl, rfl, ha, hb, hz, q0, q1, q2⟩ := h
  cases rx
  cases ry
  obtain ⟨its, r1, p1, _⟩ := I.tuple ha
  obtain ⟨its2, r2, p2, _⟩ := I.tuple hb
  by_cases hx : xs = []
  · subst hx
    cases r1
    exact cat_tup0 p1 p2 ⟨.ref b, H, I, rfl, q0 rfl⟩
  · refine HT.cat_tup p1 p2 (fun z => hx (r1.nil_iff.mp z)) (fun z => ⟨.ref a, H, I, rfl, q1 hx (r2.nil_iff.mp z)⟩) (fun z => ?_) (by rw [← r1.length, ← r2.length]; exact hz)
    exact ⟨.ref _, _, invTupE I (r1.append r2) (by rw [List.length_append]; exact hz), rfl, q2 hx (fun w => z (r2.nil_iff.mpr w)) _ _ rfl (I.hok.fresh (Nat.le_refl _))⟩
def rSlE (K : PySem.W.Frag) : V → Option Int → Option Int → Hp → VK → Prop := fun x lo hi H Q => ∃ a xs, x = .ref a ∧ SqT K H a xs ∧
  (HT.sIx xs.length 0 lo = 0 ∧ HT.sIx xs.length xs.length hi = xs.length → Q (.ref a) H) ∧ (¬ (HT.sIx xs.length 0 lo = 0 ∧ HT.sIx xs.length xs.length hi = xs.length) → NewT H Q (cutV xs lo hi))
theorem sl_tupE : SlR X (rSlE X.K) := by
  intro pins s σ H x v vl vu lo hi sl Q I rx hs pl pu h
  obtain ⟨a, xs, rfl, hx, q1, q2⟩ := h
  cases rx
  obtain ⟨its, r, ht, hz⟩ := I.tuple hx
  have hlen : its.toArray.size = xs.length := by rw [List.size_toArray]; exact r.length.symm
  refine ⟨"tuple", _, PyProof.Rows.slot_tuple_getitem.lookup, ht.typeIs, ?_⟩
  by_cases hw : HT.sIx xs.length 0 lo = 0 ∧ HT.sIx xs.length xs.length hi = xs.length
  · exact getItem_tuple_whole ht hs pl pu (by rw [hlen]; exact hw) ⟨.ref a, H, I, rfl, q1 hw⟩
  · refine HT.getItem_tuple_cut ht hs pl pu (by rw [hlen]; exact hw) ?_ (by rw [hlen]; exact hz)
    rw [hlen]
    exact ⟨.ref _, _, invTupE I ((r.drop (HT.sIx xs.length 0 lo)).take (HT.sIx xs.length xs.length hi - HT.sIx xs.length 0 lo)) (Nat.le_trans (cutV_length xs lo hi) hz), rfl, q2 hw _ _ rfl (I.hok.fresh (Nat.le_refl _))⟩
def rTupE (K : PySem.W.Frag) : List V → Hp → VK → Prop := fun xs H Q => ∃ p ys, xs = [.ref p] ∧ ((SqL K H p ys ∧ NewT H Q ys) ∨ (SqT K H p ys ∧ Q (.ref p) H))
theorem call_tupE : CallR X (.type "tuple") (rTupE X.K) := by
  intro pins s σ H xs us Q I r h
  obtain ⟨p, ys, rfl, h⟩ := h
  obtain ⟨u, rfl, rx⟩ := vals1 r
  cases rx
  rcases h with ⟨hq, q⟩ | ⟨hq, q⟩
  · obtain ⟨its, r', pl, hz⟩ := I.list hq
    have hlen := r'.length
    refine call_tuple_list pl.isList (fun h' kp => ?_) (by simp only [List.size_toArray] <;> omega)
    have I1 : Inv X pins σ H { s with heap := h' } := I.kept (t' := s.toks) kp
    exact ⟨.ref _, _, invTupE I1 r' hz, rfl, q _ _ rfl (I1.hok.fresh (Nat.le_refl _))⟩
  · obtain ⟨its, r', pl, hz⟩ := I.tuple hq
    exact call_tuple_same pl ⟨.ref p, H, I, rfl, q⟩
def rRepE (K : PySem.W.Frag) : R2 := fun x y H Q => ∃ l k xs, x = .ref l ∧ y = .int k ∧ SqT K H l xs ∧ xs ≠ [] ∧ 2 ≤ k ∧ k ≤ 1000 ∧ xs.length ≤ 1000 ∧ NewT H Q (List.replicate k.toNat xs).flatten
theorem op_repE : OpR X (binaryOp .Mult) (rRepE X.K) := by
  intro pins s σ H x y v u Q I rx ry h
  obtain ⟨l, k, xs, rfl, rfl, hT, hne, h1, h2, hz, q⟩ := h
  cases rx
  obtain ⟨t, rfl⟩ := ry
  obtain ⟨its, r, ⟨⟨cls, dd, data, sl⟩, ho, hc, n, hd⟩, hs⟩ := I.tuple hT
  simp only at hc hd
  subst hc hd
  have hle : its.length = xs.length := r.length.symm
  have hn : its ≠ [] := fun e => hne (by
    rw [e] at hle
    exact List.eq_nil_of_length_eq_zero hle.symm)
  have hi : its.toArray.isEmpty = false := by
    cases its with
    | nil => exact absurd rfl hn
    | cons a b => rfl
  have hsz0 : its.toArray.size = xs.length := by rw [List.size_toArray, hle]
  have hm : ((its.toArray.size : Nat) : Int) * k ≤ 1000000 := by
    rw [hsz0]
    have a1 : ((xs.length : Nat) : Int) * k ≤ 1000 * k := Int.mul_le_mul_of_nonneg_right (by omega) (by omega)
    omega
  have flen : (List.replicate k.toNat its).flatten.length ≤ sizeLine := by
    rw [PyProof.Rows.lm_len_rep_flat, hle, sizeLine_eq]
    have a1 : k.toNat * xs.length ≤ 1000 * 1000 := Nat.mul_le_mul (by omega) hz
    omega
  have c0 : (decide (k < -(2 ^ 63)) || decide (k ≥ 2 ^ 63)) = false := by
    rw [decide_eq_false (by omega), decide_eq_false (by omega)] <;> rfl
  have c1 : (its.toArray.isEmpty || k == 1) = false := by
    rw [hi, Bool.false_or]
    exact beq_eq_false_iff_ne.mpr (by omega)
  have c2 : (decide (k ≤ 0) || its.toArray.isEmpty) = false := by
    rw [hi, Bool.or_false]
    exact decide_eq_false (by omega)
  have c4 : Builtin.Tuple.tupleTooMany (((its.toArray.size : Nat) : Int) * k) = false := by
    unfold Builtin.Tuple.tupleTooMany
    rw [sizeLine_eq]
    exact decide_eq_false (by omega)
  refine wpAny_binaryOp_repeat_ref (T := "tuple") (U := "int") (by decide) ⟨_, ho, rfl⟩ (fun s' => typeIs_int s' k t) noFill_tuple_mul F.fills_int_mul F.slot_int_rmul repeat_tuple F.slot_int_index.lookup
    (call_meets F.slot_int_rmul (typeIs_int s k t) F.entry_int_rmul (F.args_int_rmul_2 _ _) (int_rmul_tuple k t l its.toArray n dd sl)
      ⟨ho, rfl, ⟨_, ho, rfl⟩, call_meets F.slot_tuple_mul ⟨_, ho, rfl⟩ F.entry_tuple_mul (F.args_tuple_mul_2 _ _) (tuple_mulW l its.toArray n dd sl k t c0 c1 c2 (by omega) c4 (by rw [size_rep, List.size_toArray]; exact flen)) ⟨ho, ?_⟩⟩)
  rw [size_rep]
  exact ⟨.ref _, _, invTupE I (r.rep k.toNat) (by rw [PyProof.Rows.lm_len_rep_flat, sizeLine_eq]; have a1 : k.toNat * xs.length ≤ 1000 * 1000 := Nat.mul_le_mul (by omega) hz; omega), rfl, q _ _ rfl (I.hok.fresh (Nat.le_refl _))⟩
/-! the empty tuple, many times: the same object -/
theorem tuple_mulS (l : Addr) (items : Array Value) (n : Nat) (sl : Array (Option Value)) (x : Int) (u : Tok) (c0 : (decide (x < -(2 ^ 63)) || decide (x ≥ 2 ^ 63)) = false) (c1 : (items.isEmpty || x == 1) = true) :
    Meets (Builtin.«tuple.__mul__» ⟨[.ref l, .int x u], []⟩) (fun _ R s => (∃ dd, s.heap.get? l = some { cls := .type "tuple", dict := dd, data := .seq items n, slots := sl }) ∧ R (.ok (.ret (Value.ref l))) s) :=
  .of_wp fun prog w A R s h => by
    obtain ⟨hp, g, d, tk, os⟩ := s
    obtain ⟨⟨dd, hl⟩, h⟩ := h
    have f1 := AutoSeq1.idx_int
    wp_walk using wpAny_loadPart' hl
    repeat (first
      | (refine wpAny_ite_false (decide_eq_false (by rw [c0]; exact Bool.false_ne_true)) ?_; wp_walk using wpAny_loadPart' hl)
      | (refine wpAny_ite_true (decide_eq_true (by rw [c1])) ?_; wp_walk using wpAny_loadPart' hl))
    exact ⟨_, rfl, h⟩
def rRepS (K : PySem.W.Frag) : R2 := fun x y H Q => ∃ l k, x = .ref l ∧ y = .int k ∧ SqT K H l [] ∧ 2 ≤ k ∧ k ≤ 1000 ∧ Q (.ref l) H
theorem op_repS : OpR X (binaryOp .Mult) (rRepS X.K) := by
  intro pins s σ H x y v u Q I rx ry h
  obtain ⟨l, k, rfl, rfl, hT, h1, h2, q⟩ := h
  cases rx
  obtain ⟨t, rfl⟩ := ry
  obtain ⟨its, r, ⟨⟨cls, dd, data, sl⟩, ho, hc, n, hd⟩, hs⟩ := I.tuple hT
  simp only at hc hd
  subst hc hd
  cases r
  have c0 : (decide (k < -(2 ^ 63)) || decide (k ≥ 2 ^ 63)) = false := by
    rw [decide_eq_false (by omega), decide_eq_false (by omega)] <;> rfl
  refine wpAny_binaryOp_repeat_ref (T := "tuple") (U := "int") (by decide) ⟨_, ho, rfl⟩ (fun z => typeIs_int z k t) noFill_tuple_mul F.fills_int_mul F.slot_int_rmul repeat_tuple F.slot_int_index.lookup
    (call_meets F.slot_int_rmul (typeIs_int s k t) F.entry_int_rmul (F.args_int_rmul_2 _ _) (int_rmul_tuple k t l _ n dd sl)
      ⟨ho, rfl, ⟨_, ho, rfl⟩, call_meets F.slot_tuple_mul ⟨_, ho, rfl⟩ F.entry_tuple_mul (F.args_tuple_mul_2 _ _) (tuple_mulS l _ n sl k t c0 rfl) ⟨⟨_, ho⟩, ?_⟩⟩)
  exact ⟨.ref l, H, I, rfl, q⟩
/-! ### xs[::-1] of a list or a tuple -/
end
end Fw
set_option Elab.async false
set_option linter.all false
set_option maxRecDepth 100000
set_option maxHeartbeats 1000000
/-! Fw1: plain values, slots, the relation between a plain state and the layer's, the judgements Im. -/
namespace Fw
open PySem PySem.Spec PyProof.Rows L2

abbrev D := PyData
/-- the written part, the program, the world -/
structure Kx where
  K : PySem.W.Frag
  P : Program
  w : World
/-- a def of the module as a value -/
abbrev fnD (x : Str) : D := .dict [(.int 2, .str x)]
/-- a dict as a value -/
abbrev dicD (kvs : List (D × D)) : D := .dict ((.int 0, .none) :: kvs)
abbrev dicT (kvs : List (D × D)) : D := .dict ((.int 1, .none) :: kvs)
/-- the law's script -/
abbrev scrD (ns : List Int) : D := .dict [(.int 3, .list (ns.map .int))]

/-- a slot: unset; a value; an object of the frame's own; an object of the caller's, lent -/
inductive Sl where
  | un | fz (d : D) | ow (d : D) | bo (d : D)
abbrev En := List Sl
/-- what an expression gives: a value, the object in a slot, a new object -/
inductive Vx where
  | v (d : D) | pl (i : Nat) | nw (d : D)
inductive Rs (α : Type) where
  | ok (a : α) (e : En) | exc (x : D) (e : En) | stuck
abbrev Mo (α : Type) := En → Rs α
def mRet {α : Type} (a : α) : Mo α := fun e => .ok a e
def mBind {α β : Type} (m : Mo α) (f : α → Mo β) : Mo β := fun e => match m e with
  | .ok a e' => f a e'
  | .exc x e' => .exc x e'
  | .stuck => .stuck
def mStuck {α : Type} : Mo α := fun _ => .stuck

/-! ### what stands for what -/
/-- a dict's key -/
def kD : Key → D
  | .inl i => .int i
  | .inr x => .str x
section
variable (K : Kx) (mg : Str → Option Value)
mutual
inductive Rp (G : Hp) : V → D → Prop
  | non : Rp G .non .none
  | bl (b : Bool) : Rp G (.bl b) (.bool b)
  | int (i : Int) : Rp G (.int i) (.int i)
  | str (x : Str) : Rp G (.str x) (.str x)
  | lst {a : Addr} {xs : List V} {ds : List D} : G a = some (.lst xs) → Rl G xs ds → Rp G (.ref a) (.list ds)
  | scr {a : Addr} {ns : List Int} : SqL K.K G a (ns.map V.int) → Rp G (.ref a) (scrD ns)
  | tup {a : Addr} {xs : List V} {ds : List D} : TpX K.K G a xs → Rl G xs ds → Rp G (.ref a) (.tuple ds)
  | fn {a : Addr} {x : Str} : mg x = some (.ref a) → Rp G (.ref a) (fnD x)
  | dK {a : Addr} {kvs : List (Key × V)} {ps : List (D × D)} : Rd G a (.dK kvs) → Rk G kvs ps → Rp G (.ref a) (dicD ps)
inductive Rl (G : Hp) : List V → List D → Prop
  | nil : Rl G [] []
  | cons {v : V} {vs : List V} {d : D} {ds : List D} : Rp G v d → Rl G vs ds → Rl G (v :: vs) (d :: ds)
inductive Rk (G : Hp) : List (Key × V) → List (D × D) → Prop
  | nil : Rk G [] []
  | cons {k : Key} {v : V} {r : List (Key × V)} {d : D} {ps : List (D × D)} : Rp G v d → Rk G r ps → Rk G ((k, v) :: r) ((kD k, d) :: ps)
end
end
def Sub (G G' : Hp) : Prop := ∀ a o, G a = some o → G' a = some o
theorem Sub.refl (G : Hp) : Sub G G := fun _ _ h => h
theorem Sub.trans {A B C : Hp} (a : Sub A B) (b : Sub B C) : Sub A C := fun x o h => b x o (a x o h)
theorem Sub.rd {G G' : Hp} {a : Addr} {u : HO} (s : Sub G G') (h : Rd G a u) : Rd G' a u := by
  rcases h with h | ⟨o, h⟩
  · exact .inl (s _ _ h)
  · exact .inr ⟨o, s _ _ h⟩
theorem Sub.l {K : Kx} {G G' : Hp} {a : Addr} {xs : List V} (s : Sub G G') (h : SqL K.K G a xs) : SqL K.K G' a xs := by
  rcases h with h | h
  · exact .inl (s.rd h)
  · exact .inr h
theorem Sub.t {K : Kx} {G G' : Hp} {a : Addr} {xs : List V} (s : Sub G G') (h : TpX K.K G a xs) : TpX K.K G' a xs := by
  rcases h with ⟨o, h, z⟩ | h
  · exact .inl ⟨o, s _ _ h, z⟩
  · exact .inr h
theorem Sub.q {K : Kx} {G G' : Hp} {a : Addr} {xs : List V} (s : Sub G G') (h : TpX K.K G a xs) : SqT K.K G' a xs := (s.t h).sq
theorem Sub.new {G : Hp} {p : Addr} {o : HO} (h : G p = none) : Sub G (upd G p o) := fun a u e => by
  rw [upd_ne (ne_of_none e h)]; exact e

section
variable {K : Kx} {mg : Str → Option Value} {G G' : Hp}
mutual
theorem Rp.mono (s : Sub G G') : ∀ {d : D} {v : V}, Rp K mg G v d → Rp K mg G' v d
  | .none, _, h => by cases h; exact .non
  | .bool _, _, h => by cases h; exact .bl _
  | .int _, _, h => by cases h; exact .int _
  | .str _, _, h => by cases h; exact .str _
  | .list ds, _, h => by cases h with | lst a b => exact .lst (s _ _ a) (Rl.mono s b)
  | .tuple ds, _, h => by cases h with | tup a b => exact .tup (s.t a) (Rl.mono s b)
  | .dict [], _, h => by cases h
  | .dict (p :: ps), _, h => by
    cases h with
    | fn e => exact .fn e
    | scr e => exact .scr (s.l e)
    | dK a b => exact .dK (s.rd a) (Rk.mono s b)
theorem Rl.mono (s : Sub G G') : ∀ {ds : List D} {vs : List V}, Rl K mg G vs ds → Rl K mg G' vs ds
  | [], _, h => by cases h; exact .nil
  | d :: ds, _, h => by cases h with | cons a b => exact .cons (Rp.mono s a) (Rl.mono s b)
theorem Rk.mono (s : Sub G G') : ∀ {ps : List (D × D)} {kvs : List (Key × V)}, Rk K mg G kvs ps → Rk K mg G' kvs ps
  | [], _, h => by cases h; exact .nil
  | (k, d) :: ps, _, h => by cases h with | cons a b => exact .cons (Rp.mono s a) (Rk.mono s b)
end
theorem Rl.length : ∀ {vs : List V} {ds : List D}, Rl K mg G vs ds → vs.length = ds.length
  | _, _, .nil => rfl
  | _, _, .cons _ t => congrArg Nat.succ (Rl.length t)
theorem Rl.get : ∀ {vs : List V} {ds : List D} {i : Nat} {d : D}, Rl K mg G vs ds → ds[i]? = some d → ∃ v, vs[i]? = some v ∧ Rp K mg G v d
  | _, _, _, _, .nil, e => by simp at e
  | _, _, 0, _, .cons r _, e => by simp at e; subst e; exact ⟨_, rfl, r⟩
  | _, _, i + 1, d, .cons _ t, e => by
    obtain ⟨v, h1, h2⟩ := Rl.get (i := i) (d := d) t (by simpa using e)
    exact ⟨v, by simpa using h1, h2⟩
theorem Rl.get' {vs : List V} {ds : List D} {i : Nat} {v : V} (h : Rl K mg G vs ds) (e : vs[i]? = some v) : ∃ d, ds[i]? = some d ∧ Rp K mg G v d := by
  have hi : i < ds.length := by
    rw [← h.length]
    exact (List.getElem?_eq_some_iff.mp e).1
  obtain ⟨w, h1, h2⟩ := h.get (List.getElem?_eq_getElem hi)
  rw [e] at h1
  cases h1
  exact ⟨_, List.getElem?_eq_getElem hi, h2⟩
theorem Rl.append : ∀ {vs ws : List V} {ds es : List D}, Rl K mg G vs ds → Rl K mg G ws es → Rl K mg G (vs ++ ws) (ds ++ es)
  | _, _, _, _, .nil, s => s
  | _, _, _, _, .cons r t, s => .cons r (Rl.append t s)
theorem Rl.take : ∀ {vs : List V} {ds : List D} (n : Nat), Rl K mg G vs ds → Rl K mg G (vs.take n) (ds.take n)
  | _, _, 0, _ => .nil
  | _, _, _ + 1, .nil => .nil
  | _, _, n + 1, .cons r t => .cons r (Rl.take n t)
theorem Rl.drop : ∀ {vs : List V} {ds : List D} (n : Nat), Rl K mg G vs ds → Rl K mg G (vs.drop n) (ds.drop n)
  | _, _, 0, r => r
  | _, _, _ + 1, .nil => .nil
  | _, _, n + 1, .cons _ t => Rl.drop n t
theorem Rl.set {v : V} {d : D} (r : Rp K mg G v d) : ∀ {vs : List V} {ds : List D} (i : Nat), Rl K mg G vs ds → Rl K mg G (vs.set i v) (ds.set i d)
  | _, _, _, .nil => .nil
  | _, _, 0, .cons _ t => .cons r t
  | _, _, i + 1, .cons q t => .cons q (Rl.set r i t)

/-! ### an object whose parts stand in G -/
/-- the object at a in H is what d says, its parts stand in G -/
inductive Ob (K : Kx) (mg : Str → Option Value) (G H : Hp) (a : Addr) : D → Prop
  | lst {xs : List V} {ds : List D} : H a = some (.lst xs) → Rl K mg G xs ds → Ob K mg G H a (.list ds)
  | dK {kvs : List (Key × V)} {ps : List (D × D)} : H a = some (.dK kvs) → Rk K mg G kvs ps → Ob K mg G H a (dicD ps)
theorem Ob.mono {H : Hp} {a : Addr} {d : D} (s : Sub G G') (h : Ob K mg G H a d) : Ob K mg G' H a d := by
  cases h with
  | lst e r => exact .lst e (r.mono s)
  | dK e r => exact .dK e (r.mono s)
theorem Ob.there {H : Hp} {a : Addr} {d : D} (h : Ob K mg G H a d) : ∃ o, H a = some o := by
  cases h <;> exact ⟨_, by assumption⟩
theorem Ob.move {H H' : Hp} {a : Addr} {d : D} (h : Ob K mg G H a d) (e : ∀ o, H a = some o → H' a = some o) : Ob K mg G H' a d := by
  cases h with
  | lst q r => exact .lst (e _ q) r
  | dK q r => exact .dK (e _ q) r
end

/-! ### the plain state and the layer's -/
/-- what must stand: Prot the objects that nobody may touch, G0 what of them is known as a value, B where the lent objects are -/
structure Pr where
  Prot : Hp
  G0 : Hp
  B : Nat → Option Addr
def Sl.isS : Sl → Bool
  | .un => false
  | _ => true
def Sl.isO : Sl → Bool
  | .ow _ => true
  | .bo _ => true
  | _ => false
section
variable (K : Kx) (mg : Str → Option Value) (P : Pr) (G H : Hp)
def SlOk (i : Nat) (x : Option (Option V)) : Sl → Prop
  | .un => True
  | .fz d => ∃ v, x = some (some v) ∧ Rp K mg G v d
  | .ow d => ∃ a, x = some (some (.ref a)) ∧ P.Prot a = none ∧ G a = none ∧ Ob K mg G H a d
  | .bo d => ∃ a, x = some (some (.ref a)) ∧ P.B i = some a ∧ P.Prot a = none ∧ G a = none ∧ Ob K mg G H a d
structure Rel (e : En) (σ : L2.St) : Prop where
  sub : Sub G H
  prot : Sub P.Prot H
  gp : ∀ a o, P.Prot a = some o → G a = P.G0 a
  len : σ.length = e.length
  slot : ∀ (i : Nat) (s : Sl), e[i]? = some s → SlOk K mg P G H i (σ[i]?) s
  dist : ∀ (i j : Nat) (s t : Sl) (a : Addr), i ≠ j → e[i]? = some s → e[j]? = some t → s.isO = true → t.isO = true → σ[i]? = some (some (V.ref a)) → σ[j]? = some (some (.ref a)) → False
/-- a value of an expression -/
def Rx (e : En) (σ : L2.St) (v : V) : Vx → Prop
  | .v d => Rp K mg G v d
  | .pl i => σ[i]? = some (some v) ∧ ∃ s, e[i]? = some s ∧ s.isS = true
  | .nw d => ∃ a, v = .ref a ∧ P.Prot a = none ∧ G a = none ∧ (∀ (i : Nat) (s : Sl), e[i]? = some s → s.isO = true → σ[i]? ≠ some (some (V.ref a))) ∧ Ob K mg G H a d
end
/-- the same slots, by kind; a frame's own object may have become a value -/
def Shp (e e' : En) : Prop := e'.length = e.length ∧ ∀ (i : Nat) (s : Sl), e[i]? = some s → ∃ t : Sl, e'[i]? = some t ∧ match s with
  | Sl.un => t = Sl.un
  | .fz d => t = .fz d
  | .ow _ => (∃ d', t = .ow d') ∨ ∃ d', t = .fz d'
  | .bo _ => ∃ d', t = .bo d'
theorem Shp.refl (e : En) : Shp e e := ⟨rfl, fun i s h => ⟨s, h, by cases s <;> first | rfl | exact .inl ⟨_, rfl⟩ | exact ⟨_, rfl⟩⟩⟩
theorem Shp.trans {a b c : En} (h : Shp a b) (k : Shp b c) : Shp a c := ⟨k.1.trans h.1, fun i s e => by
  obtain ⟨t, e1, q1⟩ := h.2 i s e
  obtain ⟨u, e2, q2⟩ := k.2 i t e1
  refine ⟨u, e2, ?_⟩
  cases s with
  | un => subst q1; exact q2
  | fz d => subst q1; exact q2
  | ow d =>
    rcases q1 with ⟨d', rfl⟩ | ⟨d', rfl⟩
    · exact q2
    · exact .inr ⟨d', q2⟩
  | bo d => obtain ⟨d', rfl⟩ := q1; exact q2⟩
theorem Shp.isO {e e' : En} (h : Shp e e') {i : Nat} {t : Sl} (ht : e'[i]? = some t) (ho : t.isO = true) : ∃ s, e[i]? = some s ∧ s.isO = true := by
  have hi : i < e.length := by
    rw [← h.1]
    exact (List.getElem?_eq_some_iff.mp ht).1
  obtain ⟨u, e2, q⟩ := h.2 i _ (List.getElem?_eq_getElem hi)
  rw [ht] at e2
  cases e2
  refine ⟨e[i], List.getElem?_eq_getElem hi, ?_⟩
  revert q
  cases e[i] with
  | un => intro q; subst q; exact ho
  | fz d => intro q; subst q; exact ho
  | ow d => intro _; rfl
  | bo d => intro _; rfl

/-- the object in a slot, or a value's data -/
def Vx.d (e : En) : Vx → Option D
  | .v d => some d
  | .nw d => some d
  | .pl i => match e[i]? with
    | some (.ow d) => some d
    | some (.bo d) => some d
    | some (.fz d) => some d
    | _ => none

section
variable {K : Kx} {mg : Str → Option Value} {P P' : Pr} {G G' H H' : Hp} {e e' : En} {σ : L2.St} {v : V} {x : Vx}

/-- more is protected -/
def Pr.plus (P : Pr) (G : Hp) (a : Addr) (o : HO) : Pr := ⟨upd P.Prot a o, fun b => if b = a then G a else P.G0 b, P.B⟩
theorem Rel.plus (r : Rel K mg P G H e σ) {a : Addr} {o : HO} (ha : H a = some o) (hn : ∀ (i : Nat) (s : Sl), e[i]? = some s → s.isO = true → σ[i]? ≠ some (some (V.ref a))) : Rel K mg (P.plus G a o) G H e σ where
  sub := r.sub
  prot := fun b u h => by
    by_cases hb : b = a
    · subst hb
      have h' : upd P.Prot b o b = some u := h
      rw [upd_same] at h'
      cases h'
      exact ha
    · have h' : upd P.Prot a o b = some u := h
      rw [upd_ne hb] at h'
      exact r.prot b u h'
  gp := fun b u h => by
    show G b = if b = a then G a else P.G0 b
    by_cases hb : b = a
    · rw [if_pos hb, hb]
    · rw [if_neg hb]
      have h' : upd P.Prot a o b = some u := h
      rw [upd_ne hb] at h'
      exact r.gp b u h'
  len := r.len
  slot := fun i s h => by
    have q := r.slot i s h
    cases s with
    | un => trivial
    | fz d => exact q
    | ow d =>
      obtain ⟨b, e1, e2, e3⟩ := q
      refine ⟨b, e1, ?_, e3⟩
      show upd P.Prot a o b = none
      rw [upd_ne (fun z => hn i _ h rfl (by rw [e1, z]))]
      exact e2
    | bo d =>
      obtain ⟨b, e1, eb, e2, e3⟩ := q
      refine ⟨b, e1, eb, ?_, e3⟩
      show upd P.Prot a o b = none
      rw [upd_ne (fun z => hn i _ h rfl (by rw [e1, z]))]
      exact e2
  dist := r.dist
/-- .. and no longer -/
theorem Rel.minus {a : Addr} {o : HO} {G1 : Hp} (r : Rel K mg (P.plus G1 a o) G H e σ) (hp : P.Prot a = none) : Rel K mg P G H e σ where
  sub := r.sub
  prot := fun b u h => r.prot b u (by
    show upd P.Prot a o b = some u
    rw [upd_ne (ne_of_none h hp)]
    exact h)
  gp := fun b u h => by
    have q := r.gp b u (by
      show upd P.Prot a o b = some u
      rw [upd_ne (ne_of_none h hp)]
      exact h)
    have hb : b ≠ a := ne_of_none h hp
    have q' : G b = if b = a then G1 a else P.G0 b := q
    rw [if_neg hb] at q'
    exact q'
  len := r.len
  slot := fun i s h => by
    have q := r.slot i s h
    have lo : ∀ b, upd P.Prot a o b = none → P.Prot b = none := fun b z => by
      by_cases hb : b = a
      · rw [hb]; exact hp
      · rw [upd_ne hb] at z; exact z
    cases s with
    | un => trivial
    | fz d => exact q
    | ow d =>
      obtain ⟨b, e1, e2, e3⟩ := q
      exact ⟨b, e1, lo b e2, e3⟩
    | bo d =>
      obtain ⟨b, e1, eb, e2, e3⟩ := q
      exact ⟨b, e1, eb, lo b e2, e3⟩
  dist := r.dist

/-- P1 protects more -/
def Pr.le (P P1 : Pr) : Prop := (∀ a, P1.Prot a = none → P.Prot a = none) ∧ ∀ i, P1.B i = P.B i
theorem Pr.le_refl (P : Pr) : P.le P := ⟨fun _ h => h, fun _ => rfl⟩
theorem Rx.weak {P1 : Pr} (l : P.le P1) (h : Rx K mg P1 G H e σ v x) : Rx K mg P G H e σ v x := by
  cases x with
  | v d => exact h
  | pl i => exact h
  | nw d =>
    obtain ⟨a, e1, h1, h2⟩ := h
    exact ⟨a, e1, l.1 a h1, h2⟩
/-- a value that was had before something else was run: what is to be protected meanwhile, and how it stands behind -/
theorem Rx.carry (r : Rel K mg P G H e σ) (h : Rx K mg P G H e σ v x) : ∃ P1 : Pr, P.le P1 ∧ Rel K mg P1 G H e σ ∧
    (∀ a, x = .nw a → ∀ b, v = .ref b → P1.Prot b ≠ none) ∧
    ∀ G2 H2 e2, Sub G G2 → Shp e e2 → Rel K mg P1 G2 H2 e2 σ → Rel K mg P G2 H2 e2 σ ∧ Rx K mg P G2 H2 e2 σ v x := by
  cases x with
  | v d => exact ⟨P, P.le_refl, r, (fun _ z => nomatch z), fun G2 H2 e2 s _ r2 => ⟨r2, Rp.mono s h⟩⟩
  | pl i =>
    refine ⟨P, P.le_refl, r, (fun _ z => nomatch z), fun G2 H2 e2 s q r2 => ⟨r2, ?_⟩⟩
    obtain ⟨h1, t, h2, h3⟩ := h
    obtain ⟨u, h4, h5⟩ := q.2 i t h2
    refine ⟨h1, u, h4, ?_⟩
    cases t with
    | un => cases h3
    | fz d => subst h5; rfl
    | ow d => rcases h5 with ⟨d', rfl⟩ | ⟨d', rfl⟩ <;> rfl
    | bo d => obtain ⟨d', rfl⟩ := h5; rfl
  | nw d =>
    obtain ⟨a, rfl, h1, h2, h3, h4⟩ := h
    obtain ⟨o, ho⟩ := h4.there
    have hp : (P.plus G a o).Prot a = some o := upd_same
    refine ⟨P.plus G a o, ⟨fun b z => ?_, fun _ => rfl⟩, r.plus ho h3, fun _ _ b eb => ?_, fun G2 H2 e2 s q r2 => ⟨r2.minus h1, ?_⟩⟩
    · have z' : upd P.Prot a o b = none := z
      by_cases hb : b = a
      · rw [hb]; exact h1
      · rw [upd_ne hb] at z'; exact z'
    · cases eb
      rw [hp]
      simp
    have g2 : G2 a = none := by
      have z := r2.gp a o hp
      have z' : G2 a = if a = a then G a else P.G0 a := z
      rw [if_pos rfl] at z'
      rw [z']
      exact h2
    refine ⟨a, rfl, h1, g2, fun i s hs ho' => ?_, (h4.mono s).move fun u hu => ?_⟩
    · obtain ⟨t, ht, hto⟩ := q.isO hs ho'
      exact h3 i t ht hto
    · rw [ho] at hu
      cases hu
      exact r2.prot a o hp

/-! ### what a value reads as: the top in H, its parts in G -/
inductive Ro (K : Kx) (mg : Str → Option Value) (G H : Hp) : V → D → Prop
  | non : Ro K mg G H .non .none
  | bl (b : Bool) : Ro K mg G H (.bl b) (.bool b)
  | int (i : Int) : Ro K mg G H (.int i) (.int i)
  | str (x : Str) : Ro K mg G H (.str x) (.str x)
  | lst {a : Addr} {xs : List V} {ds : List D} : H a = some (.lst xs) → Rl K mg G xs ds → Ro K mg G H (.ref a) (.list ds)
  | scr {a : Addr} {ns : List Int} : SqL K.K G a (ns.map V.int) → Ro K mg G H (.ref a) (scrD ns)
  | tup {a : Addr} {xs : List V} {ds : List D} : TpX K.K G a xs → Rl K mg G xs ds → Ro K mg G H (.ref a) (.tuple ds)
  | fn {a : Addr} {x : Str} : mg x = some (.ref a) → Ro K mg G H (.ref a) (fnD x)
  | dK {a : Addr} {kvs : List (Key × V)} {ps : List (D × D)} : Rd H a (.dK kvs) → Rk K mg G kvs ps → Ro K mg G H (.ref a) (dicD ps)
theorem Rp.ro {d : D} (s : Sub G H) (h : Rp K mg G v d) : Ro K mg G H v d := by
  cases h with
  | non => exact .non
  | bl => exact .bl _
  | int => exact .int _
  | str => exact .str _
  | lst a b => exact .lst (s _ _ a) b
  | scr a => exact .scr a
  | tup a b => exact .tup a b
  | fn a => exact .fn a
  | dK a b => exact .dK (s.rd a) b
theorem Ob.ro {a : Addr} {d : D} (h : Ob K mg G H a d) : Ro K mg G H (.ref a) d := by
  cases h with
  | lst e r => exact .lst e r
  | dK e r => exact .dK (.inl e) r
theorem Ro.rp {d : D} (h : Ro K mg G H v d) (s : Sub G H) : Rp K mg H v d := by
  cases h with
  | non => exact .non
  | bl => exact .bl _
  | int => exact .int _
  | str => exact .str _
  | lst a b => exact .lst a (b.mono s)
  | scr a => exact .scr (s.l a)
  | tup a b => exact .tup (s.t a) (b.mono s)
  | fn a => exact .fn a
  | dK a b => exact .dK a (b.mono s)
theorem Rel.read {d : D} (r : Rel K mg P G H e σ) (h : Rx K mg P G H e σ v x) (hd : x.d e = some d) : Ro K mg G H v d := by
  cases x with
  | v d' =>
    cases hd
    exact Rp.ro r.sub h
  | nw d' =>
    cases hd
    obtain ⟨a, rfl, _, _, _, h4⟩ := h
    exact h4.ro
  | pl i =>
    obtain ⟨h1, s, h2, h3⟩ := h
    have q := r.slot i s h2
    have hd' : (match e[i]? with
      | some (.ow d) => some d
      | some (.bo d) => some d
      | some (.fz d) => some d
      | _ => none) = some d := hd
    rw [h2] at hd'
    cases s with
    | un => cases h3
    | fz d' =>
      cases hd'
      obtain ⟨w, e1, e2⟩ := q
      rw [h1] at e1
      cases e1
      exact e2.ro r.sub
    | ow d' =>
      cases hd'
      obtain ⟨a, e1, _, _, e2⟩ := q
      rw [h1] at e1
      cases e1
      exact e2.ro
    | bo d' =>
      cases hd'
      obtain ⟨a, e1, _, _, _, e2⟩ := q
      rw [h1] at e1
      cases e1
      exact e2.ro
/-! ### new objects -/
theorem Rel.notNone (r : Rel K mg P G H e σ) {p : Addr} (hp : H p = none) : P.Prot p = none ∧ G p = none ∧ ∀ (i : Nat) (s : Sl), e[i]? = some s → s.isO = true → σ[i]? ≠ some (some (V.ref p)) := by
  refine ⟨?_, ?_, fun i s h1 h2 h3 => ?_⟩
  · cases q : P.Prot p with
    | none => rfl
    | some o => rw [r.prot p o q] at hp; cases hp
  · cases q : G p with
    | none => rfl
    | some o => rw [r.sub p o q] at hp; cases hp
  · have q := r.slot i s h1
    cases s with
    | un => cases h2
    | fz d => cases h2
    | ow d =>
      obtain ⟨a, e1, _, _, e2⟩ := q
      rw [h3] at e1
      cases e1
      obtain ⟨o, ho⟩ := e2.there
      rw [hp] at ho
      cases ho
    | bo d =>
      obtain ⟨a, e1, _, _, _, e2⟩ := q
      rw [h3] at e1
      cases e1
      obtain ⟨o, ho⟩ := e2.there
      rw [hp] at ho
      cases ho
/-- the heap grows -/
theorem Rel.grow (r : Rel K mg P G H e σ) (s : Sub H H') : Rel K mg P G H' e σ where
  sub := r.sub.trans s
  prot := r.prot.trans s
  gp := r.gp
  len := r.len
  slot := fun i t h => by
    have q := r.slot i t h
    cases t with
    | un => trivial
    | fz d => exact q
    | ow d => obtain ⟨a, e1, e2, e3, e4⟩ := q; exact ⟨a, e1, e2, e3, e4.move (s a)⟩
    | bo d => obtain ⟨a, e1, eb, e2, e3, e4⟩ := q; exact ⟨a, e1, eb, e2, e3, e4.move (s a)⟩
  dist := r.dist
/-- an object that is nobody's is known as a value from here on -/
theorem Rel.freeze (r : Rel K mg P G H e σ) {a : Addr} {o : HO} (ha : H a = some o) (hp : P.Prot a = none) (hg : G a = none)
    (hn : ∀ (i : Nat) (s : Sl), e[i]? = some s → s.isO = true → σ[i]? ≠ some (some (V.ref a))) : Rel K mg P (upd G a o) H e σ where
  sub := fun b u h => by
    by_cases hb : b = a
    · subst hb
      rw [upd_same] at h
      cases h
      exact ha
    · rw [upd_ne hb] at h
      exact r.sub b u h
  prot := r.prot
  gp := fun b u h => by
    rw [upd_ne (ne_of_none h hp)]
    exact r.gp b u h
  len := r.len
  slot := fun i t h => by
    have q := r.slot i t h
    cases t with
    | un => trivial
    | fz d => obtain ⟨w, e1, e2⟩ := q; exact ⟨w, e1, e2.mono (Sub.new hg)⟩
    | ow d =>
      obtain ⟨b, e1, e2, e3, e4⟩ := q
      refine ⟨b, e1, e2, ?_, e4.mono (Sub.new hg)⟩
      rw [upd_ne (fun z => hn i _ h rfl (by rw [e1, z]))]
      exact e3
    | bo d =>
      obtain ⟨b, e1, eb, e2, e3, e4⟩ := q
      refine ⟨b, e1, eb, e2, ?_, e4.mono (Sub.new hg)⟩
      rw [upd_ne (fun z => hn i _ h rfl (by rw [e1, z]))]
      exact e3
  dist := r.dist
theorem Ob.rp {a : Addr} {o : HO} {d : D} (h : Ob K mg G H a d) (ho : H a = some o) (hg : G a = none) : Rp K mg (upd G a o) (.ref a) d := by
  cases h with
  | lst e r =>
    rw [ho] at e
    cases e
    exact .lst upd_same (r.mono (Sub.new hg))
  | dK e r =>
    rw [ho] at e
    cases e
    exact .dK (.inl upd_same) (r.mono (Sub.new hg))
/-- a new object of the heap, nobody's as yet -/
theorem Rel.new (r : Rel K mg P G H e σ) {p : Addr} {o : HO} {d : D} (hp : H p = none) (ho : Ob K mg G (upd H p o) p d) : Rel K mg P G (upd H p o) e σ ∧ Rx K mg P G (upd H p o) e σ (.ref p) (.nw d) := by
  obtain ⟨h1, h2, h3⟩ := r.notNone hp
  exact ⟨r.grow (Sub.new hp), p, rfl, h1, h2, h3, ho⟩
/-- a new tuple -/
theorem Rel.newT (r : Rel K mg P G H e σ) {p : Addr} {ob : Obj} {xs : List V} {ds : List D} (hb : ob.dict = none) (hp : H p = none) (h : Rl K mg G xs ds) :
    Rel K mg P (upd G p (.frz ob (.tup xs))) (upd H p (.frz ob (.tup xs))) e σ ∧ Sub G (upd G p (.frz ob (.tup xs))) ∧ Rp K mg (upd G p (.frz ob (.tup xs))) (.ref p) (.tuple ds) := by
  obtain ⟨h1, h2, h3⟩ := r.notNone hp
  exact ⟨(r.grow (Sub.new hp)).freeze upd_same h1 h2 h3, Sub.new h2, .tup (.inl ⟨ob, upd_same, hb⟩) (h.mono (Sub.new h2))⟩
end
end Fw
set_option Elab.async false
set_option linter.all false
set_option maxRecDepth 100000
set_option maxHeartbeats 1000000
/-! Fw2: freezing, the judgements, expressions. -/
namespace Fw
open PySem PySem.Spec PyProof.Rows L2

theorem List.get_set_self {α : Type} {l : List α} {i : Nat} {x y : α} (h : l[i]? = some x) : (l.set i y)[i]? = some y := by
  have hi : i < l.length := (List.getElem?_eq_some_iff.mp h).1
  rw [List.getElem?_set_self hi]
/-! ### as a value -/
def mVal : Vx → Mo D
  | .v d => mRet d
  | .nw d => mRet d
  | .pl i => fun e => match e[i]? with
    | some (.ow d) => .ok d (e.set i (.fz d))
    | some (.fz d) => .ok d e
    | _ => .stuck
def mVals : List Vx → Mo (List D)
  | [] => mRet []
  | x :: xs => mBind (mVal x) fun d => mBind (mVals xs) fun ds => mRet (d :: ds)
section
variable {K : Kx} {mg : Str → Option Value} {P P' : Pr} {G G' H H' : Hp} {e e' : En} {σ : L2.St} {v : V} {x : Vx}
theorem Shp.fz {i : Nat} {d d' : D} (h : e[i]? = some (.ow d)) : Shp e (e.set i (.fz d')) := by
  refine ⟨by simp, fun j s hj => ?_⟩
  by_cases hij : i = j
  · subst hij
    rw [h] at hj
    cases hj
    exact ⟨_, List.get_set_self h, .inr ⟨d', rfl⟩⟩
  · refine ⟨s, by rw [List.getElem?_set_ne hij]; exact hj, ?_⟩
    cases s with
    | un => rfl
    | fz d => rfl
    | ow d => exact .inl ⟨d, rfl⟩
    | bo d => exact ⟨d, rfl⟩
theorem Rel.fzSlot (r : Rel K mg P G H e σ) {i : Nat} {d : D} (h : e[i]? = some (.ow d)) (hv : σ[i]? = some (some v)) :
    ∃ a o, v = .ref a ∧ H a = some o ∧ P.Prot a = none ∧ G a = none ∧ Rel K mg P (upd G a o) H (e.set i (.fz d)) σ ∧ Rp K mg (upd G a o) v d := by
  obtain ⟨a, e1, e2, e3, e4⟩ := r.slot i _ h
  rw [hv] at e1
  cases e1
  obtain ⟨o, ho⟩ := e4.there
  refine ⟨a, o, rfl, ho, e2, e3, ?_, e4.rp ho e3⟩
  have ne : ∀ (j : Nat) (s : Sl), j ≠ i → e[j]? = some s → s.isO = true → σ[j]? ≠ some (some (V.ref a)) := fun j s hj hs ho hz => r.dist j i s _ a hj hs h ho rfl hz hv
  refine ⟨fun b u hb => ?_, r.prot, fun b u hb => ?_, by rw [List.length_set]; exact r.len, fun j s hj => ?_, fun j k s t b hjk hj hk os ot hsj hsk => ?_⟩
  · by_cases z : b = a
    · subst z
      rw [upd_same] at hb
      cases hb
      exact ho
    · rw [upd_ne z] at hb
      exact r.sub b u hb
  · rw [upd_ne (ne_of_none hb e2)]
    exact r.gp b u hb
  · by_cases hij : j = i
    · subst hij
      rw [List.get_set_self h] at hj
      cases hj
      exact ⟨_, hv, e4.rp ho e3⟩
    · rw [List.getElem?_set_ne (Ne.symm hij)] at hj
      have q := r.slot j s hj
      cases s with
      | un => trivial
      | fz d => obtain ⟨w, f1, f2⟩ := q; exact ⟨w, f1, f2.mono (Sub.new e3)⟩
      | ow d =>
        obtain ⟨b, f1, f2, f3, f4⟩ := q
        refine ⟨b, f1, f2, ?_, f4.mono (Sub.new e3)⟩
        rw [upd_ne (fun z => ne j _ hij hj rfl (by rw [f1, z]))]
        exact f3
      | bo d =>
        obtain ⟨b, f1, fb, f2, f3, f4⟩ := q
        refine ⟨b, f1, fb, f2, ?_, f4.mono (Sub.new e3)⟩
        rw [upd_ne (fun z => ne j _ hij hj rfl (by rw [f1, z]))]
        exact f3
  · have old : ∀ (k : Nat) (s : Sl), (e.set i (.fz d))[k]? = some s → s.isO = true → e[k]? = some s := fun k s hk os => by
      by_cases hik : k = i
      · subst hik
        rw [List.get_set_self h] at hk
        cases hk
        cases os
      · rw [List.getElem?_set_ne (Ne.symm hik)] at hk
        exact hk
    exact r.dist j k s t b hjk (old j s hj os) (old k t hk ot) os ot hsj hsk
/-- one value -/
theorem Rel.val (r : Rel K mg P G H e σ) (h : Rx K mg P G H e σ v x) {d : D} (hm : mVal x e = .ok d e') :
    ∃ G', Rel K mg P G' H e' σ ∧ Sub G G' ∧ Shp e e' ∧ Rp K mg G' v d ∧ (∀ b, G' b ≠ none → G b ≠ none ∨ v = .ref b) := by
  cases x with
  | v d' =>
    cases hm
    exact ⟨G, r, Sub.refl _, Shp.refl _, h, fun b z => .inl z⟩
  | nw d' =>
    cases hm
    obtain ⟨a, rfl, h1, h2, h3, h4⟩ := h
    obtain ⟨o, ho⟩ := h4.there
    refine ⟨upd G a o, r.freeze ho h1 h2 h3, Sub.new h2, Shp.refl _, h4.rp ho h2, fun b z => ?_⟩
    by_cases hb : b = a
    · exact .inr (by rw [hb])
    · rw [upd_ne hb] at z
      exact .inl z
  | pl i =>
    obtain ⟨h1, s, h2, h3⟩ := h
    have hm' : (match e[i]? with
      | some (.ow d) => .ok d (e.set i (.fz d))
      | some (.fz d) => .ok d e
      | _ => .stuck : Rs D) = .ok d e' := hm
    rw [h2] at hm'
    cases s with
    | un => cases h3
    | bo d' => cases hm'
    | fz d' =>
      cases hm'
      obtain ⟨w, e1, e2⟩ := r.slot i _ h2
      rw [h1] at e1
      cases e1
      exact ⟨G, r, Sub.refl _, Shp.refl _, e2, fun b z => .inl z⟩
    | ow d' =>
      cases hm'
      obtain ⟨a, o, rfl, ho, q1, q2, r', q3⟩ := r.fzSlot h2 h1
      refine ⟨upd G a o, r', Sub.new q2, Shp.fz h2, q3, fun b z => ?_⟩
      by_cases hb : b = a
      · exact .inr (by rw [hb])
      · rw [upd_ne hb] at z
        exact .inl z
/-- the values of a list of arguments: new ones are unlike one another -/
inductive Ra (K : Kx) (mg : Str → Option Value) (P : Pr) (G H : Hp) (e : En) (σ : L2.St) : List V → List Vx → Prop
  | nil : Ra K mg P G H e σ [] []
  | cons {v : V} {vs : List V} {x : Vx} {xs : List Vx} : Rx K mg P G H e σ v x → Ra K mg P G H e σ vs xs → (∀ a, x = .nw a → ∀ (i : Nat) (b : D), xs[i]? = some (Vx.nw b) → vs[i]? ≠ some v) → Ra K mg P G H e σ (v :: vs) (x :: xs)
theorem Ra.length : ∀ {vs : List V} {xs : List Vx}, Ra K mg P G H e σ vs xs → vs.length = xs.length
  | _, _, .nil => rfl
  | _, _, .cons _ t _ => congrArg Nat.succ (Ra.length t)
theorem Ra.weak {P1 : Pr} (l : P.le P1) : ∀ {vs : List V} {xs : List Vx}, Ra K mg P1 G H e σ vs xs → Ra K mg P G H e σ vs xs
  | _, _, .nil => .nil
  | _, _, .cons h t n => .cons (h.weak l) (Ra.weak l t) n
theorem Rx.fzd {a : Addr} {o : HO} {i : Nat} {d : D} (hg : G a = none) (h : Rx K mg P G H e σ v x) (hx : ∀ d, x = .nw d → v ≠ .ref a) (hs : Shp e e') (he : ∀ (j : Nat) (s : Sl), j ≠ i → e'[j]? = some s → e[j]? = some s) (hi : ∀ s : Sl, e'[i]? = some s → s.isO = true → False) : Rx K mg P (upd G a o) H e' σ v x := by
  cases x with
  | v d => exact Rp.mono (Sub.new hg) h
  | pl j =>
    obtain ⟨h1, s, h2, h3⟩ := h
    obtain ⟨t, h4, h5⟩ := hs.2 j s h2
    refine ⟨h1, t, h4, ?_⟩
    cases s with
    | un => cases h3
    | fz d => subst h5; rfl
    | ow d => rcases h5 with ⟨d', rfl⟩ | ⟨d', rfl⟩ <;> rfl
    | bo d => obtain ⟨d', rfl⟩ := h5; rfl
  | nw d' =>
    obtain ⟨b, rfl, h1, h2, h3, h4⟩ := h
    refine ⟨b, rfl, h1, ?_, fun j s hj ho => ?_, h4.mono (Sub.new hg)⟩
    · rw [upd_ne (fun z => hx d' rfl (by rw [z]))]
      exact h2
    · by_cases hji : j = i
      · subst hji
        exact (hi s hj ho).elim
      · exact h3 j s (he j s hji hj) ho
/-- behind one value's freezing the others stand -/
theorem Ra.val {w : V} {y : Vx} {d : D} (r : Rel K mg P G H e σ) (hy : Rx K mg P G H e σ w y) (hm : mVal y e = .ok d e') : ∀ {vs : List V} {xs : List Vx}, Ra K mg P G H e σ vs xs → (∀ a, y = .nw a → ∀ (i : Nat) (b : D), xs[i]? = some (Vx.nw b) → vs[i]? ≠ some w) →
    ∃ G', Rel K mg P G' H e' σ ∧ Sub G G' ∧ Shp e e' ∧ Rp K mg G' w d ∧ Ra K mg P G' H e' σ vs xs := by
  intro vs xs ha hn
  cases y with
  | v d' =>
    cases hm
    exact ⟨G, r, Sub.refl _, Shp.refl _, hy, ha⟩
  | nw d' =>
    cases hm
    obtain ⟨a, rfl, h1, h2, h3, h4⟩ := hy
    obtain ⟨o, ho⟩ := h4.there
    refine ⟨upd G a o, r.freeze ho h1 h2 h3, Sub.new h2, Shp.refl _, h4.rp ho h2, ?_⟩
    have hn' := hn _ rfl
    clear hn
    induction ha with
    | nil => exact .nil
    | cons q t n ih =>
      refine .cons ?_ (ih fun i b hb => hn' (i + 1) b (by simpa using hb)) n
      exact Rx.fzd (i := e.length) (d := d) h2 q (fun d hd z => hn' 0 d (by simp [hd]) (by simp [z])) (Shp.refl _) (fun _ _ _ z => z) fun s z _ => by
        rw [List.getElem?_eq_none (Nat.le_refl _)] at z
        cases z
  | pl i =>
    obtain ⟨h1, s, h2, h3⟩ := hy
    have hm' : (match e[i]? with
      | some (.ow d) => .ok d (e.set i (.fz d))
      | some (.fz d) => .ok d e
      | _ => .stuck : Rs D) = .ok d e' := hm
    rw [h2] at hm'
    cases s with
    | un => cases h3
    | bo d' => cases hm'
    | fz d' =>
      cases hm'
      obtain ⟨w', e1, e2⟩ := r.slot i _ h2
      rw [h1] at e1
      cases e1
      exact ⟨G, r, Sub.refl _, Shp.refl _, e2, ha⟩
    | ow d' =>
      cases hm'
      obtain ⟨a, o, rfl, ho, q1, q2, r', q3⟩ := r.fzSlot h2 h1
      refine ⟨upd G a o, r', Sub.new q2, Shp.fz h2, q3, ?_⟩
      clear hn
      induction ha with
      | nil => exact .nil
      | cons q t n ih =>
        refine .cons ?_ ih n
        refine Rx.fzd (i := i) (d := d) q2 q (fun d'' hd z => ?_) (Shp.fz h2) (fun j s hj hs => ?_) fun s hs ho => ?_
        · subst hd
          obtain ⟨b, eb, _, _, hb3, _⟩ := q
          rw [z] at eb
          cases eb
          exact hb3 i _ h2 rfl h1
        · rw [List.getElem?_set_ne (Ne.symm hj)] at hs
          exact hs
        · rw [List.get_set_self h2] at hs
          cases hs
          cases ho
theorem mBind_ok {α β : Type} {m : Mo α} {f : α → Mo β} {a : α} (h : m e = .ok a e') : mBind m f e = f a e' := by unfold mBind; rw [h]
theorem mBind_exc {α β : Type} {m : Mo α} {f : α → Mo β} {z : D} (h : m e = .exc z e') : mBind m f e = .exc z e' := by unfold mBind; rw [h]
theorem mBind_stuck {α β : Type} {m : Mo α} {f : α → Mo β} (h : m e = .stuck) : mBind m f e = .stuck := by unfold mBind; rw [h]
theorem mVal_noexc {z : D} : mVal x e ≠ .exc z e' := by
  cases x with
  | v d => exact nofun
  | nw d => exact nofun
  | pl i =>
    intro h
    have h' : (match e[i]? with
      | some (.ow d) => .ok d (e.set i (.fz d))
      | some (.fz d) => .ok d e
      | _ => .stuck : Rs D) = .exc z e' := h
    split at h' <;> cases h'
theorem mVals_noexc {z : D} : ∀ {xs : List Vx} {e e' : En}, mVals xs e ≠ .exc z e'
  | [], _, _ => nofun
  | x :: xs, e, e' => by
    intro h
    have h' : mBind (mVal x) (fun d => mBind (mVals xs) fun ds => mRet (d :: ds)) e = .exc z e' := h
    cases q : mVal x e with
    | exc y e1 => exact mVal_noexc q
    | stuck => rw [mBind_stuck q] at h'; cases h'
    | ok d e1 =>
      rw [mBind_ok q] at h'
      cases q2 : mVals xs e1 with
      | exc y e2 => exact mVals_noexc q2
      | stuck => rw [mBind_stuck q2] at h'; cases h'
      | ok ds e2 => rw [mBind_ok q2] at h'; cases h'
theorem Ra.vals : ∀ {vs : List V} {xs : List Vx} {G : Hp} {e : En}, Rel K mg P G H e σ → Ra K mg P G H e σ vs xs → ∀ {ds : List D}, mVals xs e = .ok ds e' →
    ∃ G', Rel K mg P G' H e' σ ∧ Sub G G' ∧ Shp e e' ∧ Rl K mg G' vs ds
  | _, _, G, e, r, .nil, ds, h => by
    cases h
    exact ⟨G, r, Sub.refl _, Shp.refl _, .nil⟩
  | _, _, G, e, r, .cons (x := x) (xs := xs) hx ht hn, ds, h => by
    have h' : mBind (mVal x) (fun d => mBind (mVals xs) fun ds => mRet (d :: ds)) e = .ok ds e' := h
    cases q : mVal x e with
    | exc y e1 => rw [mBind_exc q] at h'; cases h'
    | stuck => rw [mBind_stuck q] at h'; cases h'
    | ok d e1 =>
      rw [mBind_ok q] at h'
      obtain ⟨G1, r1, s1, p1, v1, t1⟩ := Ra.val r hx q ht hn
      cases q2 : mVals xs e1 with
      | exc y e2 => rw [mBind_exc q2] at h'; cases h'
      | stuck => rw [mBind_stuck q2] at h'; cases h'
      | ok ds' e2 =>
        rw [mBind_ok q2] at h'
        cases h'
        obtain ⟨G2, r2, s2, p2, v2⟩ := Ra.vals r1 t1 q2
        exact ⟨G2, r2, s1.trans s2, p1.trans p2, .cons (v1.mono s2) v2⟩
end

/-! ### the judgements -/
/-- an exception: its class by name -/
def Xc (mg : Str → Option Value) (H : Hp) (x : D) (cls : Value) (d : Option Addr) : Prop := ∃ c C, x = .str c ∧ mg c = some (.ref C) ∧ cls = .ref C ∧ d = none
section
variable (K : Kx) (mg : Str → Option Value)
/-- what is wanted behind: of a value x, of an exception; α: Vx, Bool, List Vx -/
def Po {α β : Type} (P : Pr) (G : Hp) (σ : L2.St) (W : WX) (e : En) (Rr : Pr → Hp → Hp → En → β → α → Prop) (Q : β → Hp → Prop) : Rs α → Prop
  | .ok x e' => ∀ G' H' v, Rel K mg P G' H' e' σ → Sub G G' → Shp e e' → Rr P G' H' e' v x → Q v H'
  | .exc x e' => ∀ G' H' cls d, Rel K mg P G' H' e' σ → Sub G G' → Shp e e' → Xc mg H' x cls d → W cls d σ H'
  | .stuck => False
def ImE (W : WX) (te : TE) (m : Mo Vx) : Prop := ∀ (P : Pr) (G H : Hp) (e : En) (σ : L2.St) (Q : VK), Rel K mg P G H e σ →
  Po K mg P G σ W e (fun P G H e v x => Rx K mg P G H e σ v x) Q (m e) → te σ H Q
def ImT (W : WX) (tt : TT) (m : Mo Bool) : Prop := ∀ (P : Pr) (G H : Hp) (e : En) (σ : L2.St) (Q : Bool → Hp → Prop), Rel K mg P G H e σ →
  Po K mg P G σ W e (fun _ _ _ _ v x => v = x) Q (m e) → tt σ H Q
def ImA (W : WX) (ta : TA) (m : Mo (List Vx)) : Prop := ∀ (P : Pr) (G H : Hp) (e : En) (σ : L2.St) (Q : List V → Hp → Prop), Rel K mg P G H e σ →
  Po K mg P G σ W e (fun P G H e v x => Ra K mg P G H e σ v x) Q (m e) → ta σ H Q
end
end Fw
set_option Elab.async false
set_option linter.all false
set_option maxRecDepth 100000
set_option maxHeartbeats 1000000
/-! Fw3: expressions. -/
namespace Fw
open PySem PySem.Spec PyProof.Rows L2
def mVar (i : Nat) : Mo Vx := fun e => match e[i]? with
  | some (.fz d) => .ok (.v d) e
  | some (.ow _) => .ok (.pl i) e
  | some (.bo _) => .ok (.pl i) e
  | _ => .stuck
def mC (d : D) : Mo Vx := mRet (.v d)
def mNil : Mo (List Vx) := mRet []
def mCons (m : Mo Vx) (r : Mo (List Vx)) : Mo (List Vx) := mBind m fun x => mBind r fun xs => mRet (x :: xs)
def mTup (m : Mo (List Vx)) : Mo Vx := mBind m fun xs => mBind (mVals xs) fun ds => if ds.length ≤ sizeLine then mRet (.v (.tuple ds)) else mStuck
def mLst (m : Mo (List Vx)) : Mo Vx := mBind m fun xs => mBind (mVals xs) fun ds => if ds.length ≤ sizeLine then mRet (.nw (.list ds)) else mStuck
/-- an operation on what two values read as -/
def mOp2 (f : D → D → Option Vx) (x y : Vx) : Mo Vx := fun e => match x.d e, y.d e with
  | some a, some b => (match f a b with
    | some z => .ok z e
    | none => .stuck)
  | _, _ => .stuck
def mOp (f : D → D → Option Vx) (ma mb : Mo Vx) : Mo Vx := mBind ma fun x => mBind mb fun y => mOp2 f x y
def mUn (f : D → Option Vx) (ma : Mo Vx) : Mo Vx := mBind ma fun x e => match x.d e with
  | some a => (match f a with
    | some z => .ok z e
    | none => .stuck)
  | none => .stuck
def Vx.ds (e : En) : List Vx → Option (List D)
  | [] => some []
  | x :: xs => match x.d e, Vx.ds e xs with
    | some d, some ds => some (d :: ds)
    | _, _ => none
/-- a built-in's call -/
def mCb (f : List D → Option Vx) (ma : Mo (List Vx)) : Mo Vx := mBind ma fun xs e => match Vx.ds e xs with
  | some ds => (match f ds with
    | some z => .ok z e
    | none => .stuck)
  | none => .stuck
/-- a value as a test -/
def mTst (m : Mo Vx) : Mo Bool := mBind m fun x e => match x.d e with
  | some (.bool b) => .ok b e
  | _ => .stuck
def mAnd (a b : Mo Bool) : Mo Bool := mBind a fun c => if c = true then b else mRet false
def mOr (a b : Mo Bool) : Mo Bool := mBind a fun c => if c = true then mRet true else b
def mNot (a : Mo Bool) : Mo Bool := mBind a fun c => mRet (!c)
def mAndV (a b : Mo Vx) : Mo Vx := mBind (mTst a) fun c => if c = true then b else mRet (.v (.bool false))
def mOrV (a b : Mo Vx) : Mo Vx := mBind (mTst a) fun c => if c = true then mRet (.v (.bool true)) else b
def mNotV (a : Mo Vx) : Mo Vx := mBind (mTst a) fun c => mRet (.v (.bool (!c)))
def mIf (c : Mo Bool) (a b : Mo Vx) : Mo Vx := mBind c fun k => if k = true then a else b
/-- a comparison -/
def opB (f : D → D → Option Bool) : D → D → Option Vx := fun x y => (f x y).map fun b => .v (.bool b)
def mChain (f g : D → D → Option Bool) (a b c : Mo Vx) : Mo Vx := mBind a fun x => mBind b fun y => mBind (mTst (mOp2 (opB f) x y)) fun k => if k = true then mBind c fun z => mOp2 (opB g) y z else mRet (.v (.bool false))

section
variable {K : Kx} {mg : Str → Option Value} {W : WX}
variable {P P' : Pr} {G G' H H' : Hp} {e e' : En} {σ : L2.St} {v : V} {x : Vx}
theorem Rel.ra_d (r : Rel K mg P G H e σ) : ∀ {vs : List V} {xs : List Vx}, Ra K mg P G H e σ vs xs → ∀ {ds : List D}, Vx.ds e xs = some ds → Paired (Ro K mg G H) vs ds
  | _, _, .nil, ds, h => by
    cases h
    exact .nil
  | _, _, .cons (x := x) (xs := xs) a t n, ds, h => by
    have h' : (match x.d e, Vx.ds e xs with
      | some d, some ds => some (d :: ds)
      | _, _ => none) = some ds := h
    cases q1 : x.d e with
    | none => rw [q1] at h'; cases h'
    | some d =>
      cases q2 : Vx.ds e xs with
      | none => rw [q1, q2] at h'; cases h'
      | some es =>
        rw [q1, q2] at h'
        cases h'
        exact .cons (r.read a q1) (Rel.ra_d r t q2)

/-! ### how judgements follow one another -/
section
variable {α β γ δ : Type} {R1 : Pr → Hp → Hp → En → β → α → Prop} {Q : β → Hp → Prop} {m : Rs α}
theorem Po.stuck (h : Po K mg P G σ W e R1 Q m) (q : m = .stuck) : False := by subst q; exact h
/-- the wish of a first step, from the whole's -/
theorem Po.of (h1 : ∀ x e', m = .ok x e' → ∀ G' H' v, Rel K mg P G' H' e' σ → Sub G G' → Shp e e' → R1 P G' H' e' v x → Q v H')
    (h2 : ∀ x e', m = .exc x e' → ∀ G' H' cls d, Rel K mg P G' H' e' σ → Sub G G' → Shp e e' → Xc mg H' x cls d → W cls d σ H') (h3 : m ≠ .stuck) : Po K mg P G σ W e R1 Q m := by
  cases m with
  | ok x e' => exact h1 x e' rfl
  | exc x e' => exact h2 x e' rfl
  | stuck => exact (h3 rfl).elim
/-- two in a row: m then f; the second step's wish from a later state -/
theorem Po.bind {m : Mo α} {f : α → Mo γ} {R2 : Pr → Hp → Hp → En → δ → γ → Prop} {Q2 : δ → Hp → Prop} (h : Po K mg P G σ W e R2 Q2 (mBind m f e))
    (h1 : ∀ x e', m e = .ok x e' → Po K mg P G σ W e R2 Q2 (f x e') → ∀ G' H' v, Rel K mg P G' H' e' σ → Sub G G' → Shp e e' → R1 P G' H' e' v x → Q v H') : Po K mg P G σ W e R1 Q (m e) := by
  refine Po.of (fun x e' q => ?_) (fun x e' q => ?_) (fun q => ?_)
  · rw [mBind_ok q] at h
    exact h1 x e' q h
  · rw [mBind_exc q] at h
    exact h
  · rw [mBind_stuck q] at h
    exact h
/-- seen from a later state -/
theorem Po.later {R2 : Pr → Hp → Hp → En → β → α → Prop} {G1 : Hp} {e1 : En} {m : Rs α} (h : Po K mg P G σ W e R2 Q m) (s : Sub G G1) (p : Shp e e1) : Po K mg P G1 σ W e1 R2 Q m := by
  cases m with
  | ok x e' => exact fun G' H' v r s' p' q => h G' H' v r (s.trans s') (p.trans p') q
  | exc x e' => exact fun G' H' cls d r s' p' q => h G' H' cls d r (s.trans s') (p.trans p') q
  | stuck => exact h
end
/-! ### leaves -/
theorem i_var {i : Nat} : ImE K mg W (tVar i) (mVar i) := by
  intro P G H e σ Q r h
  unfold mVar at h
  cases q : e[i]? with
  | none => rw [q] at h; exact h.elim
  | some s =>
    rw [q] at h
    have sl := r.slot i s q
    cases s with
    | un => exact h.elim
    | fz d =>
      obtain ⟨v, e1, e2⟩ := sl
      exact ⟨v, e1, h G H v r (Sub.refl _) (Shp.refl _) e2⟩
    | ow d =>
      obtain ⟨a, e1, _⟩ := sl
      exact ⟨_, e1, h G H _ r (Sub.refl _) (Shp.refl _) ⟨e1, _, q, rfl⟩⟩
    | bo d =>
      obtain ⟨a, e1, _⟩ := sl
      exact ⟨_, e1, h G H _ r (Sub.refl _) (Shp.refl _) ⟨e1, _, q, rfl⟩⟩
theorem i_c {v : V} {d : D} (hv : ∀ G, Rp K mg G v d) : ImE K mg W (tC v) (mC d) := fun P G H e σ Q r h => h G H v r (Sub.refl _) (Shp.refl _) (hv G)
theorem i_int {i : Int} : ImE K mg W (tC (.int i)) (mC (.int i)) := i_c fun _ => .int i
theorem i_bl {b : Bool} : ImE K mg W (tC (.bl b)) (mC (.bool b)) := i_c fun _ => .bl b
theorem i_non : ImE K mg W (tC .non) (mC .none) := i_c fun _ => .non
theorem i_str {z : Str} : ImE K mg W (tC (.str z)) (mC (.str z)) := i_c fun _ => .str z
theorem i_glob {a : Addr} {x : Str} (h : mg x = some (.ref a)) : ImE K mg W (tC (.ref a)) (mC (fnD x)) := i_c fun _ => .fn h
/-! ### arguments -/
theorem i_nil : ImA K mg W tNil mNil := fun P G H e σ Q r h => h G H [] r (Sub.refl _) (Shp.refl _) .nil
theorem i_cons {te : TE} {tr : TA} {m : Mo Vx} {mr : Mo (List Vx)} (h1 : ImE K mg W te m) (h2 : ImA K mg W tr mr) : ImA K mg W (tCons te tr) (mCons m mr) := by
  intro P G H e σ Q r h
  refine h1 P G H e σ _ r (Po.bind h fun x e1 _ hb G1 H1 v1 r1 s1 p1 x1 => ?_)
  obtain ⟨P1, le, rc, nb, back⟩ := x1.carry r1
  have hb' := hb.later s1 p1
  refine h2 P1 G1 H1 e1 σ _ rc (Po.of (fun xs e2 q G2 H2 vs r2 s2 p2 x2 => ?_) (fun z e2 q G2 H2 cls d r2 s2 p2 xc => ?_) fun q => ?_)
  · rw [mBind_ok q] at hb'
    obtain ⟨r3, x3⟩ := back G2 H2 e2 s2 p2 r2
    refine hb' G2 H2 (v1 :: vs) r3 s2 p2 (.cons x3 (x2.weak le) fun a ha i b hxs hv => ?_)
    subst ha
    obtain ⟨c, rfl, _⟩ := x3
    have nn := nb a rfl c rfl
    -- the i-th is new and not protected
    have this : ∀ {vs : List V} {xs : List Vx}, Ra K mg P1 G2 H2 e2 σ vs xs → ∀ i : Nat, xs[i]? = some (Vx.nw b) → vs[i]? = some (V.ref c) → P1.Prot c = none := by
      intro vs xs ha
      induction ha with
      | nil => intro i hi; simp at hi
      | cons q t n ih =>
        intro i hi hv
        cases i with
        | zero =>
          simp at hi hv
          subst hi hv
          obtain ⟨c', ec, h1, _⟩ := q
          cases ec
          exact h1
        | succ i => exact ih i (by simpa using hi) (by simpa using hv)
    exact nn (this x2 i hxs hv)
  · rw [mBind_exc q] at hb'
    obtain ⟨r3, _⟩ := back G2 H2 e2 s2 p2 r2
    exact hb' G2 H2 cls d r3 s2 p2 xc
  · rw [mBind_stuck q] at hb'
    exact hb'
/-! ### displays -/
theorem i_tup {ta : TA} {m : Mo (List Vx)} (h1 : ImA K mg W ta m) : ImE K mg W (tTupE ta) (mTup m) := by
  intro P G H e σ Q r h
  refine h1 P G H e σ _ r (Po.bind h fun xs e1 _ hb G1 H1 vs r1 s1 p1 x1 => ?_)
  cases q : mVals xs e1 with
  | exc y e2 => exact (mVals_noexc q).elim
  | stuck => rw [mBind_stuck q] at hb; exact hb.elim
  | ok ds e2 =>
    rw [mBind_ok q] at hb
    obtain ⟨G2, r2, s2, p2, l2⟩ := Ra.vals r1 x1 q
    by_cases hl : ds.length ≤ sizeLine
    · rw [if_pos hl] at hb
      refine ⟨by rw [l2.length]; exact hl, fun p ob hob hp => ?_⟩
      obtain ⟨r3, s3, v3⟩ := r2.newT hob hp l2
      exact hb _ _ _ r3 ((s1.trans s2).trans s3) (p1.trans p2) v3
    · rw [if_neg hl] at hb
      exact hb.elim
theorem i_lst {ta : TA} {m : Mo (List Vx)} (h1 : ImA K mg W ta m) : ImE K mg W (tLst ta) (mLst m) := by
  intro P G H e σ Q r h
  refine h1 P G H e σ _ r (Po.bind h fun xs e1 _ hb G1 H1 vs r1 s1 p1 x1 => ?_)
  cases q : mVals xs e1 with
  | exc y e2 => exact (mVals_noexc q).elim
  | stuck => rw [mBind_stuck q] at hb; exact hb.elim
  | ok ds e2 =>
    rw [mBind_ok q] at hb
    obtain ⟨G2, r2, s2, p2, l2⟩ := Ra.vals r1 x1 q
    by_cases hl : ds.length ≤ sizeLine
    · rw [if_pos hl] at hb
      refine ⟨by rw [l2.length]; exact hl, fun p hp => ?_⟩
      obtain ⟨r3, x3⟩ := r2.new (d := .list ds) hp (.lst upd_same l2)
      exact hb _ _ _ r3 (s1.trans s2) (p1.trans p2) x3
    · rw [if_neg hl] at hb
      exact hb.elim
/-! ### operations -/
/-- a two-place operation by what its values read as -/
def OpI (K : Kx) (mg : Str → Option Value) (r : R2) (f : D → D → Option Vx) : Prop := ∀ (P : Pr) (G H : Hp) (e : En) (σ : L2.St) (x y : V) (dx dy : D) (z : Vx) (Q : VK), Rel K mg P G H e σ → Ro K mg G H x dx → Ro K mg G H y dy → f dx dy = some z →
  (∀ G' H' v, Rel K mg P G' H' e σ → Sub G G' → Rx K mg P G' H' e σ v z → Q v H') → r x y H Q
def UnI (K : Kx) (mg : Str → Option Value) (r : V → Hp → VK → Prop) (f : D → Option Vx) : Prop := ∀ (P : Pr) (G H : Hp) (e : En) (σ : L2.St) (x : V) (dx : D) (z : Vx) (Q : VK), Rel K mg P G H e σ → Ro K mg G H x dx → f dx = some z →
  (∀ G' H' v, Rel K mg P G' H' e σ → Sub G G' → Rx K mg P G' H' e σ v z → Q v H') → r x H Q
def CbI (K : Kx) (mg : Str → Option Value) (r : List V → Hp → VK → Prop) (f : List D → Option Vx) : Prop := ∀ (P : Pr) (G H : Hp) (e : En) (σ : L2.St) (xs : List V) (ds : List D) (z : Vx) (Q : VK), Rel K mg P G H e σ → Paired (Ro K mg G H) xs ds → f ds = some z →
  (∀ G' H' v, Rel K mg P G' H' e σ → Sub G G' → Rx K mg P G' H' e σ v z → Q v H') → r xs H Q
theorem mOp2_ok {f : D → D → Option Vx} {x y z : Vx} (h : mOp2 f x y e = .ok z e') : e' = e ∧ ∃ a b, x.d e = some a ∧ y.d e = some b ∧ f a b = some z := by
  unfold mOp2 at h
  cases q1 : x.d e with
  | none => rw [q1] at h; cases h
  | some a =>
    cases q2 : y.d e with
    | none => rw [q1, q2] at h; cases h
    | some b =>
      rw [q1, q2] at h
      dsimp only at h
      cases q3 : f a b with
      | none => rw [q3] at h; cases h
      | some z' =>
        rw [q3] at h
        cases h
        exact ⟨rfl, a, b, rfl, rfl, q3⟩
theorem mOp2_ne {f : D → D → Option Vx} {x y : Vx} {z : D} : mOp2 f x y e ≠ .exc z e' := by
  intro h
  unfold mOp2 at h
  split at h
  · split at h <;> cases h
  · cases h
/-- two operands, then one thing more -/
theorem ImE.two {α β : Type} {ta tb : TE} {ma mb : Mo Vx} {k : Vx → Vx → Mo α} {R2 : Pr → Hp → Hp → En → β → α → Prop} {Q2 : β → Hp → Prop} {Kx : V → V → Hp → Prop} (ha : ImE K mg W ta ma) (hb : ImE K mg W tb mb) (r : Rel K mg P G H e σ)
    (h : Po K mg P G σ W e R2 Q2 (mBind ma (fun x => mBind mb fun y => k x y) e))
    (hk : ∀ x y e2 G2 H2 vx vy, Po K mg P G σ W e R2 Q2 (k x y e2) → Rel K mg P G2 H2 e2 σ → Sub G G2 → Shp e e2 → Rx K mg P G2 H2 e2 σ vx x → Rx K mg P G2 H2 e2 σ vy y → Kx vx vy H2) :
    ta σ H fun vx H1 => tb σ H1 fun vy H2 => Kx vx vy H2 := by
  refine ha P G H e σ _ r (Po.bind h fun x e1 _ h1 G1 H1 v1 r1 s1 p1 x1 => ?_)
  obtain ⟨P1, le, rc, nb, back⟩ := x1.carry r1
  refine hb P1 G1 H1 e1 σ _ rc (Po.of (fun y e2 q G2 H2 v2 r2 s2 p2 x2 => ?_) (fun z e2 q G2 H2 cls d r2 s2 p2 xc => ?_) fun q => ?_)
  · rw [mBind_ok q] at h1
    obtain ⟨r3, x3⟩ := back G2 H2 e2 s2 p2 r2
    exact hk x y e2 G2 H2 v1 v2 h1 r3 (s1.trans s2) (p1.trans p2) x3 (x2.weak le)
  · rw [mBind_exc q] at h1
    obtain ⟨r3, _⟩ := back G2 H2 e2 s2 p2 r2
    exact h1 G2 H2 cls d r3 (s1.trans s2) (p1.trans p2) xc
  · rw [mBind_stuck q] at h1
    exact h1
theorem i_op {ta tb : TE} {ma mb : Mo Vx} {r : R2} {f : D → D → Option Vx} (ho : OpI K mg r f) (ha : ImE K mg W ta ma) (hb : ImE K mg W tb mb) : ImE K mg W (tOp r ta tb) (mOp f ma mb) := by
  intro P G H e σ Q rl h
  refine ImE.two (Kx := fun x y H2 => r x y H2 Q) ha hb rl h fun x y e2 G2 H2 vx vy hp r2 s2 p2 x2 y2 => ?_
  cases q : mOp2 f x y e2 with
  | stuck => rw [q] at hp; exact hp.elim
  | exc z e3 => exact (mOp2_ne q).elim
  | ok z e3 =>
    obtain ⟨rfl, a, b, qa, qb, qf⟩ := mOp2_ok q
    rw [q] at hp
    exact ho P G2 H2 e3 σ vx vy a b z Q r2 (r2.read x2 qa) (r2.read y2 qb) qf fun G' H' v r3 s3 x3 => hp G' H' v r3 (s2.trans s3) p2 x3
theorem i_un {ta : TE} {ma : Mo Vx} {r : V → Hp → VK → Prop} {f : D → Option Vx} (ho : UnI K mg r f) (ha : ImE K mg W ta ma) : ImE K mg W (tUn r ta) (mUn f ma) := by
  intro P G H e σ Q rl h
  refine ha P G H e σ _ rl (Po.bind h fun x e1 _ h1 G1 H1 v1 r1 s1 p1 x1 => ?_)
  cases q : x.d e1 with
  | none => rw [q] at h1; exact h1.elim
  | some a =>
    rw [q] at h1
    dsimp only at h1
    cases qf : f a with
    | none => rw [qf] at h1; exact h1.elim
    | some z =>
      rw [qf] at h1
      exact ho P G1 H1 e1 σ v1 a z Q r1 (r1.read x1 q) qf fun G' H' v r3 s3 x3 => h1 G' H' v r3 (s1.trans s3) p1 x3
theorem i_cb {ta : TA} {ma : Mo (List Vx)} {r : List V → Hp → VK → Prop} {f : List D → Option Vx} (ho : CbI K mg r f) (ha : ImA K mg W ta ma) : ImE K mg W (tCB r ta) (mCb f ma) := by
  intro P G H e σ Q rl h
  refine ha P G H e σ _ rl (Po.bind h fun x e1 _ h1 G1 H1 v1 r1 s1 p1 x1 => ?_)
  cases q : Vx.ds e1 x with
  | none => rw [q] at h1; exact h1.elim
  | some a =>
    rw [q] at h1
    dsimp only at h1
    cases qf : f a with
    | none => rw [qf] at h1; exact h1.elim
    | some z =>
      rw [qf] at h1
      exact ho P G1 H1 e1 σ v1 a z Q r1 (r1.ra_d x1 q) qf fun G' H' v r3 s3 x3 => h1 G' H' v r3 (s1.trans s3) p1 x3
/-! ### tests -/
theorem i_tst {te : TE} {m : Mo Vx} (ha : ImE K mg W te m) : ImT K mg W (tTest te) (mTst m) := by
  intro P G H e σ Q rl h
  refine ha P G H e σ _ rl (Po.bind h fun x e1 _ h1 G1 H1 v1 r1 s1 p1 x1 => ?_)
  cases q : x.d e1 with
  | none => rw [q] at h1; exact h1.elim
  | some a =>
    rw [q] at h1
    have ro := r1.read x1 q
    cases a with
    | bool b =>
      cases ro
      exact ⟨b, rfl, h1 G1 H1 b r1 s1 p1 rfl⟩
    | _ => exact h1.elim
theorem i_tB {te : TE} {m : Mo Vx} (ha : ImE K mg W te m) : ImT K mg W (tB te) (mTst m) := i_tst ha
theorem i_and {t u : TT} {a b : Mo Bool} (ha : ImT K mg W t a) (hb : ImT K mg W u b) : ImT K mg W (tAnd t u) (mAnd a b) := by
  intro P G H e σ Q rl h
  refine ha P G H e σ _ rl (Po.bind h fun c e1 _ h1 G1 H1 v1 r1 s1 p1 x1 => ?_)
  subst x1
  cases v1 with
  | true =>
    rw [if_pos rfl] at h1 ⊢
    exact hb P G1 H1 e1 σ Q r1 (h1.later s1 p1)
  | false =>
    rw [if_neg Bool.false_ne_true] at h1 ⊢
    exact h1 G1 H1 false r1 s1 p1 rfl
theorem i_or {t u : TT} {a b : Mo Bool} (ha : ImT K mg W t a) (hb : ImT K mg W u b) : ImT K mg W (tOr t u) (mOr a b) := by
  intro P G H e σ Q rl h
  refine ha P G H e σ _ rl (Po.bind h fun c e1 _ h1 G1 H1 v1 r1 s1 p1 x1 => ?_)
  subst x1
  cases v1 with
  | false =>
    rw [if_neg Bool.false_ne_true] at h1 ⊢
    exact hb P G1 H1 e1 σ Q r1 (h1.later s1 p1)
  | true =>
    rw [if_pos rfl] at h1 ⊢
    exact h1 G1 H1 true r1 s1 p1 rfl
theorem i_not {t : TT} {a : Mo Bool} (ha : ImT K mg W t a) : ImT K mg W (tNot t) (mNot a) := by
  intro P G H e σ Q rl h
  refine ha P G H e σ _ rl (Po.bind h fun c e1 _ h1 G1 H1 v1 r1 s1 p1 x1 => ?_)
  subst x1
  exact h1 G1 H1 _ r1 s1 p1 rfl
theorem i_andV {ta tb : TE} {a b : Mo Vx} (ha : ImE K mg W ta a) (hb : ImE K mg W tb b) : ImE K mg W (tAndV ta tb) (mAndV a b) := by
  intro P G H e σ Q rl h
  refine i_tst ha P G H e σ (fun c H1 => if c = true then tb σ H1 Q else Q (.bl false) H1) rl (Po.bind h fun c e1 _ h1 G1 H1 v1 r1 s1 p1 x1 => ?_)
  subst x1
  cases v1 with
  | true =>
    rw [if_pos rfl] at h1 ⊢
    exact hb P G1 H1 e1 σ Q r1 (h1.later s1 p1)
  | false =>
    rw [if_neg Bool.false_ne_true] at h1 ⊢
    exact h1 G1 H1 _ r1 s1 p1 (.bl false)
theorem i_orV {ta tb : TE} {a b : Mo Vx} (ha : ImE K mg W ta a) (hb : ImE K mg W tb b) : ImE K mg W (tOrV ta tb) (mOrV a b) := by
  intro P G H e σ Q rl h
  refine i_tst ha P G H e σ (fun c H1 => if c = true then Q (.bl true) H1 else tb σ H1 Q) rl (Po.bind h fun c e1 _ h1 G1 H1 v1 r1 s1 p1 x1 => ?_)
  subst x1
  cases v1 with
  | false =>
    rw [if_neg Bool.false_ne_true] at h1 ⊢
    exact hb P G1 H1 e1 σ Q r1 (h1.later s1 p1)
  | true =>
    rw [if_pos rfl] at h1 ⊢
    exact h1 G1 H1 _ r1 s1 p1 (.bl true)
theorem i_notV {ta : TE} {a : Mo Vx} (ha : ImE K mg W ta a) : ImE K mg W (tNotV ta) (mNotV a) := by
  intro P G H e σ Q rl h
  refine i_tst ha P G H e σ (fun c H1 => Q (.bl (!c)) H1) rl (Po.bind h fun c e1 _ h1 G1 H1 v1 r1 s1 p1 x1 => ?_)
  subst x1
  exact h1 G1 H1 _ r1 s1 p1 (.bl _)
theorem i_if {t : TT} {c : Mo Bool} {ta tb : TE} {a b : Mo Vx} (hc : ImT K mg W t c) (ha : ImE K mg W ta a) (hb : ImE K mg W tb b) : ImE K mg W (tIf t ta tb) (mIf c a b) := by
  intro P G H e σ Q rl h
  refine hc P G H e σ _ rl (Po.bind h fun c e1 _ h1 G1 H1 v1 r1 s1 p1 x1 => ?_)
  subst x1
  cases v1 with
  | true =>
    rw [if_pos rfl] at h1 ⊢
    exact ha P G1 H1 e1 σ Q r1 (h1.later s1 p1)
  | false =>
    rw [if_neg Bool.false_ne_true] at h1 ⊢
    exact hb P G1 H1 e1 σ Q r1 (h1.later s1 p1)
/-- a comparison by what its values read as -/
def OpB (K : Kx) (mg : Str → Option Value) (r : R2) (f : D → D → Option Bool) : Prop := ∀ (G H : Hp) (x y : V) (dx dy : D) (b : Bool) (Q : VK), Sub G H → Ro K mg G H x dx → Ro K mg G H y dy → f dx dy = some b → Q (.bl b) H → r x y H Q
theorem OpB.i {r : R2} {f : D → D → Option Bool} (h : OpB K mg r f) : OpI K mg r (opB f) := by
  intro P G H e σ x y dx dy z Q rl rx ry hf hq
  obtain ⟨b, hb, rfl⟩ := Option.map_eq_some_iff.mp (show (f dx dy).map (fun b => Vx.v (.bool b)) = some z from hf)
  exact h G H x y dx dy b Q rl.sub rx ry hb (hq G H _ rl (Sub.refl _) (.bl b))
theorem i_cmp {ta tb : TE} {ma mb : Mo Vx} {r : R2} {f : D → D → Option Bool} (ho : OpB K mg r f) (ha : ImE K mg W ta ma) (hb : ImE K mg W tb mb) : ImE K mg W (tOp r ta tb) (mOp (opB f) ma mb) := i_op ho.i ha hb
theorem i_chain {ta tb tc : TE} {a b c : Mo Vx} {r r' : R2} {f g : D → D → Option Bool} (ho : OpB K mg r f) (ho' : OpB K mg r' g) (ha : ImE K mg W ta a) (hb : ImE K mg W tb b) (hc : ImE K mg W tc c) : ImE K mg W (tChain r r' ta tb tc) (mChain f g a b c) := by
  intro P G H e σ Q rl h
  refine ImE.two (Kx := fun x y H2 => r x y H2 fun z H3 => ∃ k, z = .bl k ∧ (if k = true then tc σ H3 fun w' H4 => r' y w' H4 Q else Q (.bl false) H3)) ha hb rl h fun x y e2 G2 H2 vx vy hp r2 s2 p2 x2 y2 => ?_
  cases q : mOp2 (opB f) x y e2 with
  | stuck =>
    rw [mBind_stuck (m := mTst (mOp2 (opB f) x y)) (mBind_stuck q)] at hp
    exact hp.elim
  | exc z e3 => exact (mOp2_ne q).elim
  | ok z e3 =>
    obtain ⟨rfl, a, b, qa, qb, qf⟩ := mOp2_ok q
    obtain ⟨k, hk, rfl⟩ := Option.map_eq_some_iff.mp (show (f a b).map (fun b => Vx.v (.bool b)) = some z from qf)
    rw [mBind_ok (m := mTst (mOp2 (opB f) x y)) (a := k) (e' := e3) (by unfold mTst; rw [mBind_ok q] <;> rfl)] at hp
    refine ho G2 H2 vx vy a b k _ r2.sub (r2.read x2 qa) (r2.read y2 qb) hk ⟨k, rfl, ?_⟩
    cases k with
    | false =>
      rw [if_neg Bool.false_ne_true] at hp ⊢
      exact hp G2 H2 _ r2 s2 p2 (.bl false)
    | true =>
      rw [if_pos rfl] at hp ⊢
      have hp := hp.later s2 p2
      obtain ⟨P1, le, rc, nb, back⟩ := y2.carry r2
      refine hc P1 G2 H2 e3 σ _ rc (Po.of (fun z e4 q G3 H3 v3 r3 s3 p3 x3 => ?_) (fun z e4 q G3 H3 cls d r3 s3 p3 xc => ?_) fun q => ?_)
      · rw [mBind_ok q] at hp
        obtain ⟨r4, y4⟩ := back G3 H3 e4 s3 p3 r3
        cases q2 : mOp2 (opB g) y z e4 with
        | stuck => rw [q2] at hp; exact hp.elim
        | exc z e5 => exact (mOp2_ne q2).elim
        | ok z' e5 =>
          obtain ⟨rfl, a', b', qa', qb', qf'⟩ := mOp2_ok q2
          rw [q2] at hp
          exact ho'.i P G3 H3 e5 σ vy v3 a' b' z' Q r4 (r4.read y4 qa') (r4.read (x3.weak le) qb') qf' fun G' H' v r5 s5 x5 => hp G' H' v r5 (s3.trans s5) p3 x5
      · rw [mBind_exc q] at hp
        obtain ⟨r4, _⟩ := back G3 H3 e4 s3 p3 r3
        exact hp G3 H3 cls d r4 s3 p3 xc
      · rw [mBind_stuck q] at hp
        exact hp
end
end Fw
set_option Elab.async false
set_option linter.all false
set_option maxRecDepth 100000
set_option maxHeartbeats 1000000
/-! Fw4: defs of the text and their calls. -/
namespace Fw
open PySem PySem.Spec PyProof.Rows L2
/-- what a def gives: a value (or a new object) and what is in the objects that were lent; an exception -/
inductive Fr where
  | ok (x : Vx) (outs : List Sl) | exc (x : D) (outs : List Sl) | stuck
abbrev Fn := List Sl → Fr
def Vx.isP : Vx → Bool
  | .pl _ => true
  | _ => false
def mPrep1 (b : Bool) (x : Vx) : Mo Vx := match b, x with
  | true, .pl i => mRet (.pl i)
  | _, x => mBind (mVal x) fun d => mRet (.v d)
def mPrep : List Bool → List Vx → Mo (List Vx)
  | _, [] => mRet []
  | b :: bs, x :: xs => mBind (mPrep1 b x) fun y => mBind (mPrep bs xs) fun ys => mRet (y :: ys)
  | [], x :: xs => mBind (mPrep1 false x) fun y => mBind (mPrep [] xs) fun ys => mRet (y :: ys)
def argSl (e : En) : Vx → Option Sl
  | .v d => some (.fz d)
  | .pl i => (match e[i]? with
    | some (.ow d) => some (.bo d)
    | some (.bo d) => some (.bo d)
    | some (.fz d) => some (.fz d)
    | _ => none)
  | .nw _ => none
def argSls (e : En) : List Vx → Option (List Sl)
  | [] => some []
  | x :: xs => match argSl e x, argSls e xs with
    | some s, some ss => some (s :: ss)
    | _, _ => none
def hasPl (i : Nat) : List Vx → Bool
  | [] => false
  | .pl j :: xs => i == j || hasPl i xs
  | _ :: xs => hasPl i xs
def plsOk : List Vx → Bool
  | [] => true
  | .pl i :: xs => !hasPl i xs && plsOk xs
  | _ :: xs => plsOk xs
def Sl.bod : Sl → Option D
  | .bo d => some d
  | _ => none
def findPl (j : Nat) : List Vx → List Sl → Option D
  | .pl i :: xs, o :: os => if i = j then o.bod else findPl j xs os
  | _ :: xs, _ :: os => findPl j xs os
  | _, _ => none
def Sl.withO : Sl → D → Sl
  | .ow _, d => .ow d
  | .bo _, d => .bo d
  | s, _ => s
def backs (e : En) (xs : List Vx) (outs : List Sl) : En := e.mapIdx fun j s => match findPl j xs outs with
  | some d => s.withO d
  | none => s
def backsOk : List Sl → List Sl → Bool
  | .bo _ :: as, .bo _ :: os => backsOk as os
  | .bo _ :: _, _ => false
  | _ :: as, .un :: os => backsOk as os
  | [], [] => true
  | _, _ => false
def mCallD (f : Fn) (ys : List Vx) : Mo Vx := fun e => match argSls e ys with
  | some as => if plsOk ys = true then (match f as with
    | .ok x outs => if (backsOk as outs && !x.isP) = true then .ok x (backs e ys outs) else .stuck
    | .exc z outs => if backsOk as outs = true then .exc z (backs e ys outs) else .stuck
    | .stuck => .stuck) else .stuck
  | none => .stuck
def mCall (bs : List Bool) (f : Fn) (ma : Mo (List Vx)) : Mo Vx := mBind ma fun xs => mBind (mPrep bs xs) fun ys => mCallD f ys
/-- a def's promise -/
def FSp (K : Kx) (mg : Str → Option Value) (f : Fn) : Sp := fun vs H Q E => ∃ (P : Pr) (G : Hp) (args : En), Rel K mg P G H args (vs.map some) ∧ (∀ (i : Nat) (a : Addr), P.B i = some a → ∃ d, args[i]? = some (Sl.bo d)) ∧ match f args with
  | .ok x outs => ∀ G' H' v, Rel K mg P G' H' outs (vs.map some) → Sub G G' → Rx K mg P G' H' outs (vs.map some) v x → Q v H'
  | .exc z outs => ∀ G' H' cls d, Rel K mg P G' H' outs (vs.map some) → Sub G G' → Xc mg H' z cls d → E cls d H'
  | .stuck => False

section
variable {K : Kx} {mg : Str → Option Value} {W : WX}
variable {P P' : Pr} {G G' H H' : Hp} {e e' : En} {σ : L2.St} {v : V} {x : Vx}
theorem mPrep1_noexc {b : Bool} {z : D} : mPrep1 b x e ≠ .exc z e' := by
  intro h
  have go : ∀ x : Vx, mBind (mVal x) (fun d => mRet (Vx.v d)) e = .exc z e' → False := fun x h => by
    cases q : mVal x e with
    | exc y e1 => exact mVal_noexc q
    | stuck => rw [mBind_stuck q] at h; cases h
    | ok d e1 => rw [mBind_ok q] at h; cases h
  cases b with
  | false => exact go x h
  | true => cases x with
    | v d => exact go (.v d) h
    | nw d => exact go (.nw d) h
    | pl i => cases h
theorem mPrep_noexc {z : D} : ∀ {bs : List Bool} {xs : List Vx} {e e' : En}, mPrep bs xs e ≠ .exc z e'
  | [], [], _, _ => nofun
  | _ :: _, [], _, _ => nofun
  | b :: bs, x :: xs, e, e' => by
    intro h
    have h' : mBind (mPrep1 b x) (fun y => mBind (mPrep bs xs) fun ys => mRet (y :: ys)) e = .exc z e' := h
    cases q : mPrep1 b x e with
    | exc y e1 => exact mPrep1_noexc q
    | stuck => rw [mBind_stuck q] at h'; cases h'
    | ok d e1 =>
      rw [mBind_ok q] at h'
      cases q2 : mPrep bs xs e1 with
      | exc y e2 => exact mPrep_noexc q2
      | stuck => rw [mBind_stuck q2] at h'; cases h'
      | ok ds e2 => rw [mBind_ok q2] at h'; cases h'
  | [], x :: xs, e, e' => by
    intro h
    have h' : mBind (mPrep1 false x) (fun y => mBind (mPrep [] xs) fun ys => mRet (y :: ys)) e = .exc z e' := h
    cases q : mPrep1 false x e with
    | exc y e1 => exact mPrep1_noexc q
    | stuck => rw [mBind_stuck q] at h'; cases h'
    | ok d e1 =>
      rw [mBind_ok q] at h'
      cases q2 : mPrep [] xs e1 with
      | exc y e2 => exact mPrep_noexc q2
      | stuck => rw [mBind_stuck q2] at h'; cases h'
      | ok ds e2 => rw [mBind_ok q2] at h'; cases h'
/-- one argument made ready; the others stand -/
theorem Ra.prep1 {w : V} {y z : Vx} {b : Bool} (r : Rel K mg P G H e σ) (hy : Rx K mg P G H e σ w y) (hm : mPrep1 b y e = .ok z e') {vs : List V} {xs : List Vx} (ha : Ra K mg P G H e σ vs xs) (hn : ∀ a, y = .nw a → ∀ (i : Nat) (b : D), xs[i]? = some (Vx.nw b) → vs[i]? ≠ some w) :
    ∃ G', Rel K mg P G' H e' σ ∧ Sub G G' ∧ Shp e e' ∧ Rx K mg P G' H e' σ w z ∧ (∀ d, z ≠ .nw d) ∧ Ra K mg P G' H e' σ vs xs := by
  have go : mBind (mVal y) (fun d => mRet (Vx.v d)) e = .ok z e' → ∃ G', Rel K mg P G' H e' σ ∧ Sub G G' ∧ Shp e e' ∧ Rx K mg P G' H e' σ w z ∧ (∀ d, z ≠ .nw d) ∧ Ra K mg P G' H e' σ vs xs := fun h => by
    cases q : mVal y e with
    | exc y e1 => exact (mVal_noexc q).elim
    | stuck => rw [mBind_stuck q] at h; cases h
    | ok d e1 =>
      rw [mBind_ok q] at h
      cases h
      obtain ⟨G1, r1, s1, p1, v1, t1⟩ := Ra.val r hy q ha hn
      exact ⟨G1, r1, s1, p1, v1, nofun, t1⟩
  cases b with
  | false => exact go hm
  | true => cases y with
    | v d => exact go hm
    | nw d => exact go hm
    | pl i =>
      cases hm
      exact ⟨G, r, Sub.refl _, Shp.refl _, hy, nofun, ha⟩
theorem Rx.still {w : V} {z : Vx} (h : Rx K mg P G H e σ w z) (hz : ∀ d, z ≠ .nw d) (s : Sub G G') (p : Shp e e') : Rx K mg P G' H e' σ w z := by
  cases z with
  | v d => exact Rp.mono s h
  | nw d => exact (hz d rfl).elim
  | pl i =>
    obtain ⟨h1, t, h2, h3⟩ := h
    obtain ⟨u, h4, h5⟩ := p.2 i t h2
    refine ⟨h1, u, h4, ?_⟩
    cases t with
    | un => cases h3
    | fz d => subst h5; rfl
    | ow d => rcases h5 with ⟨d', rfl⟩ | ⟨d', rfl⟩ <;> rfl
    | bo d => obtain ⟨d', rfl⟩ := h5; rfl
/-- arguments without new objects -/
inductive Rn (K : Kx) (mg : Str → Option Value) (P : Pr) (G H : Hp) (e : En) (σ : L2.St) : List V → List Vx → Prop
  | nil : Rn K mg P G H e σ [] []
  | cons {v : V} {vs : List V} {x : Vx} {xs : List Vx} : Rx K mg P G H e σ v x → (∀ d, x ≠ .nw d) → Rn K mg P G H e σ vs xs → Rn K mg P G H e σ (v :: vs) (x :: xs)
theorem Ra.prep : ∀ {vs : List V} {xs ys : List Vx} {bs : List Bool} {G : Hp} {e : En}, Rel K mg P G H e σ → Ra K mg P G H e σ vs xs → mPrep bs xs e = .ok ys e' →
    ∃ G', Rel K mg P G' H e' σ ∧ Sub G G' ∧ Shp e e' ∧ Rn K mg P G' H e' σ vs ys := by
  intro vs xs
  induction xs generalizing vs with
  | nil =>
    intro ys bs G e r ha h
    cases ha
    have : ys = [] ∧ e' = e := by
      cases bs <;> (cases h; exact ⟨rfl, rfl⟩)
    obtain ⟨rfl, rfl⟩ := this
    exact ⟨G, r, Sub.refl _, Shp.refl _, .nil⟩
  | cons x xs ih =>
    intro ys bs G e r ha h
    cases ha with
    | cons hx ht hn =>
      obtain ⟨b, bs', h'⟩ : ∃ b bs', mBind (mPrep1 b x) (fun y => mBind (mPrep bs' xs) fun ys => mRet (y :: ys)) e = .ok ys e' := by
        cases bs with
        | nil => exact ⟨false, [], h⟩
        | cons b bs => exact ⟨b, bs, h⟩
      cases q : mPrep1 b x e with
      | exc y e1 => exact (mPrep1_noexc q).elim
      | stuck => rw [mBind_stuck q] at h'; cases h'
      | ok y e1 =>
        rw [mBind_ok q] at h'
        obtain ⟨G1, r1, s1, p1, x1, n1, t1⟩ := Ra.prep1 r hx q ht hn
        cases q2 : mPrep bs' xs e1 with
        | exc y e2 => exact (mPrep_noexc q2).elim
        | stuck => rw [mBind_stuck q2] at h'; cases h'
        | ok zs e2 =>
          rw [mBind_ok q2] at h'
          cases h'
          obtain ⟨G2, r2, s2, p2, t2⟩ := ih r1 t1 q2
          exact ⟨G2, r2, s1.trans s2, p1.trans p2, .cons (x1.still n1 s2 p2) n1 t2⟩
theorem Rn.get : ∀ {vs : List V} {xs : List Vx} {i : Nat} {x : Vx}, Rn K mg P G H e σ vs xs → xs[i]? = some x → ∃ v, vs[i]? = some v ∧ Rx K mg P G H e σ v x
  | _, _, _, _, .nil, h => by simp at h
  | _, _, 0, _, .cons r _ _, h => by simp at h; subst h; exact ⟨_, rfl, r⟩
  | _, _, i + 1, x, .cons _ _ t, h => by
    obtain ⟨v, h1, h2⟩ := Rn.get (i := i) (x := x) t (by simpa using h)
    exact ⟨v, by simpa using h1, h2⟩
theorem Rn.length : ∀ {vs : List V} {xs : List Vx}, Rn K mg P G H e σ vs xs → vs.length = xs.length
  | _, _, .nil => rfl
  | _, _, .cons _ _ t => congrArg Nat.succ (Rn.length t)
theorem argSls_get : ∀ {xs : List Vx} {as : List Sl}, argSls e xs = some as → as.length = xs.length ∧ ∀ (i : Nat) (x : Vx), xs[i]? = some x → ∃ s, as[i]? = some s ∧ argSl e x = some s
  | [], as, h => by
    cases h
    exact ⟨rfl, fun i x hx => by simp at hx⟩
  | x :: xs, as, h => by
    have h' : (match argSl e x, argSls e xs with
      | some s, some ss => some (s :: ss)
      | _, _ => none) = some as := h
    cases q1 : argSl e x with
    | none => rw [q1] at h'; cases h'
    | some s =>
      cases q2 : argSls e xs with
      | none => rw [q1, q2] at h'; cases h'
      | some ss =>
        rw [q1, q2] at h'
        cases h'
        obtain ⟨l, g⟩ := argSls_get q2
        refine ⟨congrArg Nat.succ l, fun i y hy => ?_⟩
        cases i with
        | zero => simp at hy; subst hy; exact ⟨s, rfl, q1⟩
        | succ i =>
          obtain ⟨t, h1, h2⟩ := g i y (by simpa using hy)
          exact ⟨t, by simpa using h1, h2⟩
theorem hasPl_of : ∀ {xs : List Vx} {i k : Nat}, xs[k]? = some (.pl i) → hasPl i xs = true
  | [], _, _, h => by simp at h
  | x :: xs, i, 0, h => by
    simp at h
    subst h
    show (i == i || hasPl i xs) = true
    simp
  | x :: xs, i, k + 1, h => by
    have ih := hasPl_of (xs := xs) (i := i) (k := k) (by simpa using h)
    cases x with
    | pl j =>
      show (i == j || hasPl i xs) = true
      rw [ih, Bool.or_true]
    | v d => exact ih
    | nw d => exact ih
theorem plsOk_inj : ∀ {xs : List Vx} {i k l : Nat}, plsOk xs = true → xs[k]? = some (.pl i) → xs[l]? = some (.pl i) → k = l
  | [], _, _, _, _, h, _ => by simp at h
  | x :: xs, i, k, l, h, hk, hl => by
    have ht : plsOk xs = true := by
      cases x with
      | pl j => exact (Bool.and_eq_true_iff.mp (show (!hasPl j xs && plsOk xs) = true from h)).2
      | v d => exact h
      | nw d => exact h
    have h0 : ∀ m : Nat, x = .pl i → xs[m]? = some (.pl i) → False := fun m e hm => by
      subst e
      have h1 := (Bool.and_eq_true_iff.mp (show (!hasPl i xs && plsOk xs) = true from h)).1
      rw [hasPl_of hm] at h1
      cases h1
    cases k with
    | zero =>
      cases l with
      | zero => rfl
      | succ l => exact (h0 l (by simpa using hk) (by simpa using hl)).elim
    | succ k =>
      cases l with
      | zero => exact (h0 k (by simpa using hl) (by simpa using hk)).elim
      | succ l => exact congrArg Nat.succ (plsOk_inj ht (by simpa using hk) (by simpa using hl))
theorem findPl_some : ∀ {xs : List Vx} {os : List Sl} {j : Nat} {d : D}, findPl j xs os = some d → ∃ k : Nat, xs[k]? = some (.pl j) ∧ os[k]? = some (.bo d)
  | [], _, _, _, h => by
    unfold findPl at h
    cases h
  | x :: xs, [], j, d, h => by
    unfold findPl at h
    cases x <;> cases h
  | x :: xs, o :: os, j, d, h => by
    have tl : findPl j xs os = some d → ∃ k : Nat, (x :: xs)[k]? = some (.pl j) ∧ (o :: os)[k]? = some (.bo d) := fun h => by
      obtain ⟨k, h1, h2⟩ := findPl_some h
      exact ⟨k + 1, by simpa using h1, by simpa using h2⟩
    cases x with
    | v d => exact tl h
    | nw d => exact tl h
    | pl i =>
      have h' : (if i = j then o.bod else findPl j xs os) = some d := h
      by_cases hij : i = j
      · rw [if_pos hij] at h'
        cases o with
        | bo d' => cases h'; exact ⟨0, by rw [hij]; rfl, rfl⟩
        | _ => cases h'
      · rw [if_neg hij] at h'
        exact tl h'
theorem findPl_of {xs : List Vx} {os : List Sl} (hp : plsOk xs = true) : ∀ {j k : Nat} {d : D}, xs[k]? = some (.pl j) → os[k]? = some (.bo d) → findPl j xs os = some d := by
  induction xs generalizing os with
  | nil => intro j k d h; simp at h
  | cons x xs ih =>
    intro j k d h1 h2
    cases os with
    | nil => simp at h2
    | cons o os =>
      cases k with
      | zero =>
        simp at h1 h2
        subst h1 h2
        show (if j = j then _ else _) = _
        rw [if_pos rfl]
        rfl
      | succ k =>
        have h1' : xs[k]? = some (.pl j) := by simpa using h1
        have h2' : os[k]? = some (.bo d) := by simpa using h2
        cases x with
        | v d => exact ih hp h1' h2'
        | nw d => exact ih hp h1' h2'
        | pl i =>
          have h3 := Bool.and_eq_true_iff.mp (show (!hasPl i xs && plsOk xs) = true from hp)
          have ne : i ≠ j := fun z => by
            subst z
            rw [hasPl_of h1'] at h3
            cases h3.1
          show (if i = j then _ else _) = _
          rw [if_neg ne]
          exact ih h3.2 h1' h2'
theorem backsOk_get : ∀ {as os : List Sl}, backsOk as os = true → os.length = as.length ∧ (∀ (k : Nat) (d : D), as[k]? = some (.bo d) → ∃ d', os[k]? = some (.bo d')) ∧ ∀ (k : Nat) (s : Sl), os[k]? = some s → s = .un ∨ ∃ d d', s = .bo d ∧ as[k]? = some (.bo d')
  | [], [], _ => ⟨rfl, fun k d h => by simp at h, fun k s h => by simp at h⟩
  | [], _ :: _, h => by cases h
  | a :: as, [], h => by cases a <;> cases h
  | a :: as, o :: os, h => by
    obtain ⟨h', hao⟩ : backsOk as os = true ∧ ((∃ d d', a = .bo d ∧ o = .bo d') ∨ ((∀ d, a ≠ .bo d) ∧ o = .un)) := by
      cases a with
      | bo d => cases o with
        | bo d' => exact ⟨h, .inl ⟨d, d', rfl, rfl⟩⟩
        | _ => cases h
      | un => cases o with
        | un => exact ⟨h, .inr ⟨nofun, rfl⟩⟩
        | _ => cases h
      | fz d => cases o with
        | un => exact ⟨h, .inr ⟨nofun, rfl⟩⟩
        | _ => cases h
      | ow d => cases o with
        | un => exact ⟨h, .inr ⟨nofun, rfl⟩⟩
        | _ => cases h
    obtain ⟨l, g1, g2⟩ := backsOk_get h'
    refine ⟨congrArg Nat.succ l, fun k d hk => ?_, fun k s hk => ?_⟩
    · cases k with
      | zero =>
        simp at hk
        rcases hao with ⟨d1, d2, rfl, rfl⟩ | ⟨n, _⟩
        · exact ⟨d2, rfl⟩
        · exact (n d hk).elim
      | succ k =>
        obtain ⟨d', h1⟩ := g1 k d (by simpa using hk)
        exact ⟨d', by simpa using h1⟩
    · cases k with
      | zero =>
        simp at hk
        rcases hao with ⟨d1, d2, rfl, rfl⟩ | ⟨_, rfl⟩
        · exact .inr ⟨d2, d1, hk.symm, rfl⟩
        · exact .inl hk.symm
      | succ k =>
        rcases g2 k s (by simpa using hk) with h1 | ⟨d, d', h1, h2⟩
        · exact .inl h1
        · exact .inr ⟨d, d', h1, by simpa using h2⟩
theorem backs_get {xs : List Vx} {os : List Sl} {j : Nat} {s : Sl} (h : e[j]? = some s) : (backs e xs os)[j]? = some (match findPl j xs os with
    | some d => s.withO d
    | none => s) := by
  unfold backs
  rw [List.getElem?_mapIdx, h] <;> rfl
theorem withO_isO {s : Sl} {d : D} (h : (s.withO d).isO = true) : s.isO = true := by
  cases s <;> first | exact h | rfl
theorem backs_shp {xs : List Vx} {os : List Sl} : Shp e (backs e xs os) := by
  refine ⟨by unfold backs; simp, fun j s h => ⟨_, backs_get h, ?_⟩⟩
  cases s with
  | un => cases findPl j xs os <;> rfl
  | fz d => cases findPl j xs os <;> rfl
  | ow d => cases findPl j xs os <;> exact .inl ⟨_, rfl⟩
  | bo d => cases findPl j xs os <;> exact ⟨_, rfl⟩
/-- the lent objects -/
def lent (as : List Sl) (vs : List V) (i : Nat) : Option Addr := match as[i]?, vs[i]? with
  | some (.bo _), some (.ref a) => some a
  | _, _ => none
/-- a call's entry, and the state behind it -/
theorem Rel.call (r : Rel K mg P G H e σ) {vs : List V} {ys : List Vx} {as : List Sl} (hn : Rn K mg P G H e σ vs ys) (ha : argSls e ys = some as) (hp : plsOk ys = true) :
    ∃ P1 : Pr, Rel K mg P1 G H as (vs.map some) ∧ (∀ (i : Nat) (a : Addr), P1.B i = some a → ∃ d, as[i]? = some (Sl.bo d)) ∧
      ∀ (G' H' : Hp) (outs : List Sl), backsOk as outs = true → Rel K mg P1 G' H' outs (vs.map some) → Sub G G' →
        Rel K mg P G' H' (backs e ys outs) σ ∧ ∀ v x, x.isP = false → Rx K mg P1 G' H' outs (vs.map some) v x → Rx K mg P G' H' (backs e ys outs) σ v x := by
  classical
  obtain ⟨al, ag⟩ := argSls_get ha
  have vl := hn.length
  -- an argument that is lent: its slot
  have lentAt : ∀ (k : Nat) (d : D), as[k]? = some (.bo d) → ∃ (i : Nat) (s : Sl) (a : Addr), ys[k]? = some (.pl i) ∧ e[i]? = some s ∧ s.isO = true ∧ vs[k]? = some (.ref a) ∧ σ[i]? = some (some (.ref a)) ∧ P.Prot a = none ∧ G a = none ∧ Ob K mg G H a d := by
    intro k d hk
    have hkl : k < ys.length := by
      rw [← al]
      exact (List.getElem?_eq_some_iff.mp hk).1
    obtain ⟨s0, h1, h2⟩ := ag k _ (List.getElem?_eq_getElem hkl)
    rw [hk] at h1
    cases h1
    obtain ⟨v, hv, hx⟩ := hn.get (List.getElem?_eq_getElem hkl)
    cases hy : ys[k] with
    | v d' => rw [hy] at h2; cases h2
    | nw d' => rw [hy] at h2; cases h2
    | pl i =>
      rw [hy] at h2 hx
      obtain ⟨x1, s, x2, x3⟩ := hx
      have h2' : (match e[i]? with
        | some (.ow d) => some (.bo d)
        | some (.bo d) => some (.bo d)
        | some (.fz d) => some (.fz d)
        | _ => none) = some (Sl.bo d) := h2
      rw [x2] at h2'
      have sl := r.slot i s x2
      have ey : ys[k]? = some (.pl i) := by rw [List.getElem?_eq_getElem hkl, hy]
      cases s with
      | un => cases h2'
      | fz d' => cases h2'
      | ow d' =>
        cases h2'
        obtain ⟨a, e1, e2, e3, e4⟩ := sl
        rw [x1] at e1
        cases e1
        exact ⟨i, _, a, ey, x2, rfl, hv, x1, e2, e3, e4⟩
      | bo d' =>
        cases h2'
        obtain ⟨a, e1, _, e2, e3, e4⟩ := sl
        rw [x1] at e1
        cases e1
        exact ⟨i, _, a, ey, x2, rfl, hv, x1, e2, e3, e4⟩
  have isLent : ∀ a : Addr, (∃ k, lent as vs k = some a) ↔ ∃ (k : Nat) (d : D), as[k]? = some (.bo d) ∧ vs[k]? = some (.ref a) := by
    intro a
    constructor
    · rintro ⟨k, hk⟩
      unfold lent at hk
      split at hk
      · rename_i d a' h1 h2
        cases hk
        exact ⟨k, d, h1, h2⟩
      · cases hk
    · rintro ⟨k, d, h1, h2⟩
      exact ⟨k, by unfold lent; rw [h1, h2]⟩
  refine ⟨⟨fun a => if ∃ k, lent as vs k = some a then none else H a, G, lent as vs⟩, ?_, ?_, ?_⟩
  · refine ⟨r.sub, fun a o h => ?_, fun _ _ _ => rfl, by rw [List.length_map, vl, al], fun k s hk => ?_, fun k l s t a hkl hk hl os ot hsk hsl => ?_⟩
    · have h' : (if ∃ k, lent as vs k = some a then none else H a) = some o := h
      split at h'
      · cases h'
      · exact h'
    · have hkl : k < ys.length := by
        rw [← al]
        exact (List.getElem?_eq_some_iff.mp hk).1
      cases s with
      | un => trivial
      | bo d =>
        obtain ⟨i, s, a, y1, y2, y3, y4, y5, y6, y7, y8⟩ := lentAt k d hk
        have hl : lent as vs k = some a := by unfold lent; rw [hk, y4]
        refine ⟨a, by rw [List.getElem?_map, y4] <;> rfl, hl, if_pos ⟨k, hl⟩, y7, y8⟩
      | ow d =>
        obtain ⟨s0, h1, h2⟩ := ag k _ (List.getElem?_eq_getElem hkl)
        rw [hk] at h1
        cases h1
        exfalso
        cases hy : ys[k] with
        | v d' => rw [hy] at h2; cases h2
        | nw d' => rw [hy] at h2; cases h2
        | pl i =>
          rw [hy] at h2
          have h2' : (match e[i]? with
            | some (.ow d) => some (.bo d)
            | some (.bo d) => some (.bo d)
            | some (.fz d) => some (.fz d)
            | _ => none) = some (Sl.ow d) := h2
          split at h2' <;> cases h2'
      | fz d =>
        obtain ⟨s0, h1, h2⟩ := ag k _ (List.getElem?_eq_getElem hkl)
        rw [hk] at h1
        cases h1
        obtain ⟨v, hv, hx⟩ := hn.get (List.getElem?_eq_getElem hkl)
        refine ⟨v, by rw [List.getElem?_map, hv] <;> rfl, ?_⟩
        cases hy : ys[k] with
        | v d' =>
          rw [hy] at h2 hx
          cases h2
          exact hx
        | nw d' => rw [hy] at h2; cases h2
        | pl i =>
          rw [hy] at h2 hx
          obtain ⟨x1, s, x2, x3⟩ := hx
          have h2' : (match e[i]? with
            | some (.ow d) => some (.bo d)
            | some (.bo d) => some (.bo d)
            | some (.fz d) => some (.fz d)
            | _ => none) = some (Sl.fz d) := h2
          rw [x2] at h2'
          cases s with
          | un => cases h2'
          | ow d' => cases h2'
          | bo d' => cases h2'
          | fz d' =>
            cases h2'
            obtain ⟨w, e1, e2⟩ := r.slot i _ x2
            rw [x1] at e1
            cases e1
            exact e2
    · -- two lent ones are unlike
      have bo_of : ∀ (k : Nat) (s : Sl), as[k]? = some s → s.isO = true → ∃ d, s = .bo d := fun k s hk os => by
        cases s with
        | un => cases os
        | fz d => cases os
        | bo d => exact ⟨d, rfl⟩
        | ow d =>
          have hkl : k < ys.length := by
            rw [← al]
            exact (List.getElem?_eq_some_iff.mp hk).1
          obtain ⟨s0, h1, h2⟩ := ag k _ (List.getElem?_eq_getElem hkl)
          rw [hk] at h1
          cases h1
          exfalso
          cases hy : ys[k] with
          | v d' => rw [hy] at h2; cases h2
          | nw d' => rw [hy] at h2; cases h2
          | pl i =>
            rw [hy] at h2
            have h2' : (match e[i]? with
              | some (.ow d) => some (.bo d)
              | some (.bo d) => some (.bo d)
              | some (.fz d) => some (.fz d)
              | _ => none) = some (Sl.ow d) := h2
            split at h2' <;> cases h2'
      obtain ⟨d1, rfl⟩ := bo_of k s hk os
      obtain ⟨d2, rfl⟩ := bo_of l t hl ot
      obtain ⟨i, s1, a1, y1, y2, y3, y4, y5, _⟩ := lentAt k d1 hk
      obtain ⟨j, s2, a2, z1, z2, z3, z4, z5, _⟩ := lentAt l d2 hl
      have ek : a1 = a := by
        rw [List.getElem?_map, y4] at hsk
        cases hsk
        rfl
      have el : a2 = a := by
        rw [List.getElem?_map, z4] at hsl
        cases hsl
        rfl
      subst ek
      subst el
      have hij : i ≠ j := fun z => by
        subst z
        exact hkl (plsOk_inj hp y1 z1)
      exact r.dist i j s1 s2 _ hij y2 z2 y3 z3 y5 z5
  · intro i a h
    have h' : lent as vs i = some a := h
    unfold lent at h'
    split at h'
    · rename_i d a' h1 h2
      exact ⟨d, h1⟩
    · cases h'
  · intro G' H' outs bk r1 sg
    obtain ⟨ol, og1, og2⟩ := backsOk_get bk
    -- what is not lent stands
    have keep : ∀ (a : Addr) (o : HO), H a = some o → (∀ k, lent as vs k ≠ some a) → H' a = some o ∧ G' a = G a := fun a o ho hl => by
      have q : (if ∃ k, lent as vs k = some a then none else H a) = some o := by
        rw [if_neg (fun ⟨k, z⟩ => hl k z)]
        exact ho
      exact ⟨r1.prot a o q, r1.gp a o q⟩
    -- a slot's object that is lent is found
    have lentSlot : ∀ (j : Nat) (s : Sl) (a : Addr) (k : Nat), e[j]? = some s → s.isO = true → σ[j]? = some (some (.ref a)) → lent as vs k = some a → ys[k]? = some (.pl j) := by
      intro j s a k hj hs hv hl
      unfold lent at hl
      split at hl
      · rename_i d a' h1 h2
        cases hl
        obtain ⟨i, s1, a1, y1, y2, y3, y4, y5, _⟩ := lentAt k d h1
        rw [h2] at y4
        cases y4
        by_cases hij : i = j
        · rw [← hij]; exact y1
        · exact (r.dist i j s1 s _ hij y2 hj y3 hs y5 hv).elim
      · cases hl
    have protNone : ∀ (k : Nat) (a : Addr), lent as vs k = some a → P.Prot a = none := fun k a hl => by
      unfold lent at hl
      split at hl
      · rename_i d a' h1 h2
        cases hl
        obtain ⟨i, s1, a1, y1, y2, y3, y4, y5, y6, _⟩ := lentAt k d h1
        rw [h2] at y4
        cases y4
        exact y6
      · cases hl
    have slotOf : ∀ (j : Nat) (s : Sl), e[j]? = some s → s.isO = true → ∃ (a : Addr) (d0 : D), σ[j]? = some (some (.ref a)) ∧ P.Prot a = none ∧ G a = none ∧ Ob K mg G H a d0 ∧ (s = .ow d0 ∨ (s = .bo d0 ∧ P.B j = some a)) := by
      intro j s hj hs
      have q := r.slot j s hj
      cases s with
      | un => cases hs
      | fz d => cases hs
      | ow d => obtain ⟨a, e1, e2, e3, e4⟩ := q; exact ⟨a, d, e1, e2, e3, e4, .inl rfl⟩
      | bo d => obtain ⟨a, e1, eb, e2, e3, e4⟩ := q; exact ⟨a, d, e1, e2, e3, e4, .inr ⟨rfl, eb⟩⟩
    -- the object of a slot behind the call
    have objOf : ∀ (j : Nat) (s : Sl) (a : Addr) (d0 : D), e[j]? = some s → s.isO = true → σ[j]? = some (some (.ref a)) → G a = none → Ob K mg G H a d0 →
        G' a = none ∧ Ob K mg G' H' a (match findPl j ys outs with
          | some d => d
          | none => d0) := by
      intro j s a d0 hj hs hv hg ob
      by_cases hl : ∃ k, lent as vs k = some a
      · obtain ⟨k, hl⟩ := hl
        have hy := lentSlot j s a k hj hs hv hl
        unfold lent at hl
        split at hl
        · rename_i d a' h1 h2
          cases hl
          obtain ⟨d', ho⟩ := og1 k d h1
          rw [findPl_of hp hy ho]
          obtain ⟨b, e1, eb, _, e3, e4⟩ := r1.slot k _ ho
          rw [List.getElem?_map, h2] at e1
          cases e1
          exact ⟨e3, e4⟩
        · cases hl
      · have hl' : ∀ k, lent as vs k ≠ some a := fun k z => hl ⟨k, z⟩
        obtain ⟨o, ho⟩ := ob.there
        obtain ⟨k1, k2⟩ := keep a o ho hl'
        have nf : findPl j ys outs = none := by
          cases q : findPl j ys outs with
          | none => rfl
          | some d =>
            obtain ⟨k, h1, h2⟩ := findPl_some q
            rcases og2 k _ h2 with z | ⟨d1, d2, z, h3⟩
            · cases z
            · obtain ⟨i, s1, a1, y1, y2, y3, y4, y5, _⟩ := lentAt k d2 h3
              rw [h1] at y1
              cases y1
              rw [hv] at y5
              cases y5
              exact (hl' k (by unfold lent; rw [h3, y4])).elim
        rw [nf, k2]
        refine ⟨hg, (ob.mono sg).move fun u hu => ?_⟩
        rw [ho] at hu
        cases hu
        exact k1
    refine ⟨⟨r1.sub, fun a o h => ?_, fun a o h => ?_, ?_, fun j t hj => ?_, fun i j s t a hij hi hj os ot h1 h2 => ?_⟩, fun v x hx rx => ?_⟩
    · exact (keep a o (r.prot a o h) fun k z => by rw [protNone k a z] at h; cases h).1
    · rw [(keep a o (r.prot a o h) fun k z => by rw [protNone k a z] at h; cases h).2]
      exact r.gp a o h
    · rw [r.len]
      exact backs_shp.1.symm
    · have hjl : j < e.length := by
        rw [← (backs_shp (e := e) (xs := ys) (os := outs)).1]
        exact (List.getElem?_eq_some_iff.mp hj).1
      have ej := List.getElem?_eq_getElem hjl
      rw [backs_get ej] at hj
      have hj' := Option.some.inj hj
      subst hj'
      by_cases hs : (e[j]).isO = true
      · obtain ⟨a, d0, f1, f2, f3, f4, f5⟩ := slotOf j _ ej hs
        obtain ⟨g1, g2⟩ := objOf j _ a d0 ej hs f1 f3 f4
        cases q : findPl j ys outs with
        | none =>
          rw [q] at g2
          rcases f5 with f5 | ⟨f5, fb⟩
          · rw [f5]; exact ⟨a, f1, f2, g1, g2⟩
          · rw [f5]; exact ⟨a, f1, fb, f2, g1, g2⟩
        | some d =>
          rw [q] at g2
          rcases f5 with f5 | ⟨f5, fb⟩
          · rw [f5]; exact ⟨a, f1, f2, g1, g2⟩
          · rw [f5]; exact ⟨a, f1, fb, f2, g1, g2⟩
      · have q := r.slot j _ ej
        revert q hs
        cases e[j] with
        | un => intro _ _; cases findPl j ys outs <;> trivial
        | fz d =>
          intro _ q
          obtain ⟨w, e1, e2⟩ := q
          cases findPl j ys outs <;> exact ⟨w, e1, e2.mono sg⟩
        | ow d => intro hs; exact (hs rfl).elim
        | bo d => intro hs; exact (hs rfl).elim
    · obtain ⟨s', hs', os'⟩ := (backs_shp (e := e) (xs := ys) (os := outs)).isO hi os
      obtain ⟨t', ht', ot'⟩ := (backs_shp (e := e) (xs := ys) (os := outs)).isO hj ot
      exact r.dist i j s' t' a hij hs' ht' os' ot' h1 h2
    · cases x with
      | v d => exact rx
      | pl i => cases hx
      | nw d =>
        obtain ⟨a, rfl, h1, h2, h3, h4⟩ := rx
        have h1' : (if ∃ k, lent as vs k = some a then none else H a) = none := h1
        -- it is not lent: the lent ones are in outs
        have hl : ∀ k, lent as vs k ≠ some a := fun k z => by
          have z' := z
          unfold lent at z'
          split at z'
          · rename_i d1 a' g1 g2
            cases z'
            obtain ⟨d', ho⟩ := og1 k d1 g1
            exact h3 k _ ho rfl (by rw [List.getElem?_map, g2] <;> rfl)
          · cases z'
        rw [if_neg (fun ⟨k, z⟩ => hl k z)] at h1'
        obtain ⟨q1, q2, q3⟩ := r.notNone h1'
        refine ⟨a, rfl, q1, h2, fun j t hj ot hz => ?_, h4⟩
        obtain ⟨s', hs', os'⟩ := (backs_shp (e := e) (xs := ys) (os := outs)).isO hj ot
        exact q3 j s' hs' os' hz
theorem i_call {bs : List Bool} {f : Fn} {ta : TA} {ma : Mo (List Vx)} (ha : ImA K mg W ta ma) : ImE K mg W (tCallS (FSp K mg f) (WE W) ta) (mCall bs f ma) := by
  intro P G H e σ Q rl h
  refine ha P G H e σ _ rl (Po.bind h fun xs e1 _ h1 G1 H1 vs r1 s1 p1 x1 => ?_)
  cases q : mPrep bs xs e1 with
  | exc y e2 => exact (mPrep_noexc q).elim
  | stuck => rw [mBind_stuck q] at h1; exact h1.elim
  | ok ys e2 =>
    rw [mBind_ok q] at h1
    obtain ⟨G2, r2, s2, p2, n2⟩ := Ra.prep r1 x1 q
    unfold mCallD at h1
    cases qa : argSls e2 ys with
    | none => rw [qa] at h1; exact h1.elim
    | some as =>
      rw [qa] at h1
      dsimp only at h1
      by_cases hp : plsOk ys = true
      · rw [if_pos hp] at h1
        obtain ⟨P1, rc, hb, back⟩ := r2.call n2 qa hp
        refine ⟨P1, G2, as, rc, hb, ?_⟩
        cases qf : f as with
        | stuck => rw [qf] at h1; exact h1.elim
        | ok x outs =>
          rw [qf] at h1
          dsimp only at h1 ⊢
          intro G' H' v r3 s3 x3
          by_cases hk : (backsOk as outs && !x.isP) = true
          · rw [if_pos hk] at h1
            obtain ⟨k1, k2⟩ := Bool.and_eq_true_iff.mp hk
            obtain ⟨r4, x4⟩ := back G' H' outs k1 r3 s3
            exact h1 G' H' v r4 ((s1.trans s2).trans s3) ((p1.trans p2).trans backs_shp) (x4 v x (by simpa using k2) x3)
          · rw [if_neg hk] at h1
            exact h1.elim
        | exc z outs =>
          rw [qf] at h1
          dsimp only at h1 ⊢
          intro G' H' cls d r3 s3 x3
          by_cases hk : backsOk as outs = true
          · rw [if_pos hk] at h1
            obtain ⟨r4, x4⟩ := back G' H' outs hk r3 s3
            exact h1 G' H' cls d r4 ((s1.trans s2).trans s3) ((p1.trans p2).trans backs_shp) x3
          · rw [if_neg hk] at h1
            exact h1.elim
      · rw [if_neg hp] at h1
        exact h1.elim
end
end Fw
set_option Elab.async false
set_option linter.all false
set_option maxRecDepth 100000
set_option maxHeartbeats 1000000
/-! Fw5: statements, bodies. -/
namespace Fw
open PySem PySem.Spec PyProof.Rows L2
inductive Out where
  | nx (e : En) | rt (x : Vx) (e : En) | bk (e : En) | ct (e : En) | exc (x : D) (e : En) | stuck
abbrev So := En → Out
section
variable (K : Kx) (mg : Str → Option Value)
/-- what a def may give back -/
def Rr (P : Pr) (G H : Hp) (e : En) (σ : L2.St) (v : V) : Vx → Prop
  | .v d => Rp K mg G v d
  | .pl _ => False
  | .nw d => ∃ a, v = .ref a ∧ P.Prot a = none ∧ G a = none ∧ (∀ (i : Nat) (d : D), e[i]? = some (Sl.bo d) → σ[i]? ≠ some (some (V.ref a))) ∧ Ob K mg G H a d
def PoS (P : Pr) (G : Hp) (W : WX) (Dn : Ends) : Out → Prop
  | .nx e' => ∀ G' H' σ', Rel K mg P G' H' e' σ' → Sub G G' → Dn.nx σ' H'
  | .bk e' => ∀ G' H' σ', Rel K mg P G' H' e' σ' → Sub G G' → Dn.bk σ' H'
  | .ct e' => ∀ G' H' σ', Rel K mg P G' H' e' σ' → Sub G G' → Dn.ct σ' H'
  | .rt x e' => ∀ G' H' σ' v, Rel K mg P G' H' e' σ' → Sub G G' → Rr K mg P G' H' e' σ' v x → Dn.rt v H'
  | .exc x e' => ∀ G' H' σ' cls d, Rel K mg P G' H' e' σ' → Sub G G' → Xc mg H' x cls d → W cls d σ' H'
  | .stuck => False
def ImS (W : WX) (ts : TS) (m : So) : Prop := ∀ (P : Pr) (G H : Hp) (e : En) (σ : L2.St) (Dn : Ends), Rel K mg P G H e σ → PoS K mg P G W Dn (m e) → ts Dn σ H
/-- a target takes a value -/
def ImG (g : TG) (gm : D → En → Option En) : Prop := ∀ (P : Pr) (G H : Hp) (e e' : En) (σ : L2.St) (v : V) (d : D) (Q : L2.St → Hp → Prop), Rel K mg P G H e σ → Rp K mg G v d → gm d e = some e' →
  (∀ σ', Rel K mg P G H e' σ' → Q σ' H) → g v σ H Q
def ImGs (g : TGs) (gm : List D → En → Option En) : Prop := ∀ (P : Pr) (G H : Hp) (e e' : En) (σ : L2.St) (vs : List V) (ds : List D) (Q : L2.St → Hp → Prop), Rel K mg P G H e σ → Rl K mg G vs ds → gm ds e = some e' →
  (∀ σ', Rel K mg P G H e' σ' → Q σ' H) → g vs σ H Q
end
/-- an expression's outcome as a statement's -/
def sOf {α : Type} (m : Mo α) (k : α → So) : So := fun e => match m e with
  | .ok a e' => k a e'
  | .exc x e' => .exc x e'
  | .stuck => .stuck
def Sl.isB : Sl → Bool
  | .bo _ => true
  | _ => false
/-- the slot i is stored -/
def setSl (i : Nat) (s : Sl) (e : En) : Option En := match e[i]? with
  | some (.bo _) => none
  | some _ => some (e.set i s)
  | none => none
def oNx : Option En → Out
  | some e => .nx e
  | none => .stuck
def sSkip : So := fun e => .nx e
def sSeq (a b : So) : So := fun e => match a e with
  | .nx e' => b e'
  | o => o
def sIf (c : Mo Bool) (a b : So) : So := sOf c fun k => if k = true then a else b
def sSet (i : Nat) (m : Mo Vx) : So := sOf m fun x => match x with
  | .v d => fun e => oNx (setSl i (.fz d) e)
  | .nw d => fun e => oNx (setSl i (.ow d) e)
  | .pl j => sOf (mVal (.pl j)) fun d e => oNx (setSl i (.fz d) e)
def sRet (m : Mo Vx) : So := sOf m fun x => match x with
  | .v d => fun e => .rt (.v d) e
  | .nw d => fun e => .rt (.nw d) e
  | .pl j => fun e => match e[j]? with
    | some (.ow d) => .rt (.nw d) e
    | some (.fz d) => .rt (.v d) e
    | _ => .stuck
def sRetN : So := fun e => .rt (.v .none) e
def sDrop (m : Mo Vx) : So := sOf m fun _ e => .nx e
def sBrk : So := fun e => .bk e
def sCnt : So := fun e => .ct e
def sNever : So := fun _ => .stuck
def sGet (gm : D → En → Option En) (m : Mo Vx) : So := sOf m fun x => sOf (mVal x) fun d e => oNx (gm d e)
def gNm (i : Nat) : D → En → Option En := fun d e => setSl i (.fz d) e
def gTp (gm : List D → En → Option En) : D → En → Option En := fun d e => match d with
  | .tuple ds => gm ds e
  | _ => none
def gNl : List D → En → Option En := fun ds e => match ds with
  | [] => some e
  | _ => none
def gCn (g : D → En → Option En) (r : List D → En → Option En) : List D → En → Option En := fun ds e => match ds with
  | d :: t => (match g d e with
    | some e' => r t e'
    | none => none)
  | [] => none

section
variable {K : Kx} {mg : Str → Option Value} {W : WX}
variable {P P' : Pr} {G G' H H' : Hp} {e e' : En} {σ σ' : L2.St} {v : V} {x : Vx} {Dn : Ends}
theorem sOf_ok {α : Type} {m : Mo α} {k : α → So} {a : α} (h : m e = .ok a e') : sOf m k e = k a e' := by unfold sOf; rw [h]
theorem sOf_exc {α : Type} {m : Mo α} {k : α → So} {z : D} (h : m e = .exc z e') : sOf m k e = .exc z e' := by unfold sOf; rw [h]
theorem sOf_stuck {α : Type} {m : Mo α} {k : α → So} (h : m e = .stuck) : sOf m k e = .stuck := by unfold sOf; rw [h]
/-- the wish of the expression that a statement begins with -/
theorem PoS.of {α β : Type} {R1 : Pr → Hp → Hp → En → β → α → Prop} {Q : β → Hp → Prop} {m : Mo α} {k : α → So} (h : PoS K mg P G W Dn (sOf m k e))
    (h1 : ∀ x e', m e = .ok x e' → PoS K mg P G W Dn (k x e') → ∀ G' H' v, Rel K mg P G' H' e' σ → Sub G G' → Shp e e' → R1 P G' H' e' v x → Q v H') : Po K mg P G σ W e R1 Q (m e) := by
  refine Po.of (fun x e' q => ?_) (fun x e' q G' H' cls d r s p xc => ?_) (fun q => ?_)
  · rw [sOf_ok q] at h
    exact h1 x e' q h
  · rw [sOf_exc q] at h
    exact h G' H' σ cls d r s xc
  · rw [sOf_stuck q] at h
    exact h
theorem PoS.later {G1 : Hp} {o : Out} (h : PoS K mg P G W Dn o) (s : Sub G G1) : PoS K mg P G1 W Dn o := by
  cases o with
  | nx e' => exact fun G' H' σ' r s' => h G' H' σ' r (s.trans s')
  | bk e' => exact fun G' H' σ' r s' => h G' H' σ' r (s.trans s')
  | ct e' => exact fun G' H' σ' r s' => h G' H' σ' r (s.trans s')
  | rt x e' => exact fun G' H' σ' v r s' => h G' H' σ' v r (s.trans s')
  | exc x e' => exact fun G' H' σ' cls d r s' => h G' H' σ' cls d r (s.trans s')
  | stuck => exact h
/-! ### storing -/
theorem setSl_some {i : Nat} {s : Sl} (h : setSl i s e = some e') : e' = e.set i s ∧ i < e.length ∧ ∀ d, e[i]? ≠ some (.bo d) := by
  unfold setSl at h
  split at h
  · cases h
  · rename_i t ht hn
    cases h
    exact ⟨rfl, (List.getElem?_eq_some_iff.mp hn).1, fun d z => ht d (Option.some.inj (hn.symm.trans z))⟩
  · cases h
/-- a slot takes a value, or a new object -/
theorem Rel.set (r : Rel K mg P G H e σ) {i : Nat} {s : Sl} (h : setSl i s e = some e') (hx : (∃ d, s = .fz d ∧ Rp K mg G v d) ∨ ∃ d, s = .ow d ∧ Rx K mg P G H e σ v (.nw d)) : Rel K mg P G H e' (σ.set i (some v)) := by
  obtain ⟨rfl, hi, nb⟩ := setSl_some h
  have his : i < σ.length := by rw [r.len]; exact hi
  have old : ∀ (j : Nat) (t : Sl), j ≠ i → (e.set i s)[j]? = some t → e[j]? = some t := fun j t hj q => by
    rw [List.getElem?_set_ne (Ne.symm hj)] at q
    exact q
  have oldv : ∀ j : Nat, j ≠ i → (σ.set i (some v))[j]? = σ[j]? := fun j hj => List.getElem?_set_ne (Ne.symm hj)
  refine ⟨r.sub, r.prot, r.gp, by rw [List.length_set, List.length_set]; exact r.len, fun j t hj => ?_, fun j k t u a hjk hj hk ot ou h1 h2 => ?_⟩
  · by_cases hji : j = i
    · subst hji
      rw [List.getElem?_set_self hi] at hj
      cases hj
      rw [List.getElem?_set_self his]
      rcases hx with ⟨d, rfl, q⟩ | ⟨d, rfl, a, rfl, q1, q2, q3, q4⟩
      · exact ⟨v, rfl, q⟩
      · exact ⟨a, rfl, q1, q2, q4⟩
    · have q := r.slot j t (old j t hji hj)
      rw [oldv j hji]
      exact q
  · -- the new object is unlike the others
    have isnew : ∀ (k : Nat) (u : Sl), k ≠ i → (e.set i s)[k]? = some u → u.isO = true → s.isO = true → σ[k]? = some (some (.ref a)) → (σ.set i (some v))[i]? = some (some (.ref a)) → False := by
      intro k u hki hk ou os h2 h1
      rw [List.getElem?_set_self his] at h1
      have hv : v = .ref a := Option.some.inj (Option.some.inj h1)
      rcases hx with ⟨d, rfl, q⟩ | ⟨d, rfl, b, eb, q1, q2, q3, q4⟩
      · cases os
      · rw [hv] at eb
        cases eb
        exact q3 k u (old k u hki hk) ou h2
    by_cases hji : j = i
    · subst hji
      have hkj : k ≠ j := Ne.symm hjk
      rw [List.getElem?_set_self hi] at hj
      cases hj
      rw [oldv k hkj] at h2
      exact isnew k u hkj hk ou ot h2 h1
    · by_cases hki : k = i
      · subst hki
        rw [List.getElem?_set_self hi] at hk
        cases hk
        rw [oldv j hji] at h1
        exact isnew j t hji hj ot ou h1 h2
      · rw [oldv j hji] at h1
        rw [oldv k hki] at h2
        exact r.dist j k t u a hjk (old j t hji hj) (old k u hki hk) ot ou h1 h2
/-! ### blocks -/
theorem is_skip : ImS K mg W tNext sSkip := fun P G H e σ Dn r h => h G H σ r (Sub.refl _)
theorem is_seq {t u : TS} {a b : So} (ha : ImS K mg W t a) (hb : ImS K mg W u b) : ImS K mg W (tSeq t u) (sSeq a b) := by
  intro P G H e σ Dn r h
  refine ha P G H e σ _ r ?_
  have h' : PoS K mg P G W Dn (match a e with
    | .nx e' => b e'
    | o => o) := h
  cases q : a e with
  | nx e' =>
    rw [q] at h'
    exact fun G' H' σ' r' s' => hb P G' H' e' σ' Dn r' (PoS.later h' s')
  | bk e' => rw [q] at h'; exact h'
  | ct e' => rw [q] at h'; exact h'
  | rt x e' => rw [q] at h'; exact h'
  | exc x e' => rw [q] at h'; exact h'
  | stuck => rw [q] at h'; exact h'
theorem is_if {c : TT} {t u : TS} {k : Mo Bool} {a b : So} (hc : ImT K mg W c k) (ha : ImS K mg W t a) (hb : ImS K mg W u b) : ImS K mg W (tIfS c t u) (sIf k a b) := by
  intro P G H e σ Dn r h
  refine hc P G H e σ _ r (PoS.of h fun c e1 _ h1 G1 H1 v1 r1 s1 p1 x1 => ?_)
  subst x1
  cases v1 with
  | true =>
    rw [if_pos rfl] at h1 ⊢
    exact ha P G1 H1 e1 σ Dn r1 (h1.later s1)
  | false =>
    rw [if_neg Bool.false_ne_true] at h1 ⊢
    exact hb P G1 H1 e1 σ Dn r1 (h1.later s1)
theorem PoS.oNx {o : Option En} (h : PoS K mg P G W Dn (oNx o)) : ∃ e', o = some e' ∧ ∀ G' H' σ', Rel K mg P G' H' e' σ' → Sub G G' → Dn.nx σ' H' := by
  cases o with
  | none => exact h.elim
  | some e' => exact ⟨e', rfl, h⟩
/-- a value frozen in a statement -/
theorem PoS.val {k : D → So} (r : Rel K mg P G H e σ) (hx : Rx K mg P G H e σ v x) (h : PoS K mg P G W Dn (sOf (mVal x) k e)) :
    ∃ d e' G', mVal x e = .ok d e' ∧ Rel K mg P G' H e' σ ∧ Sub G G' ∧ Shp e e' ∧ Rp K mg G' v d ∧ PoS K mg P G W Dn (k d e') := by
  cases q : mVal x e with
  | exc y e1 => exact (mVal_noexc q).elim
  | stuck => rw [sOf_stuck q] at h; exact h.elim
  | ok d e1 =>
    rw [sOf_ok q] at h
    obtain ⟨G1, r1, s1, p1, v1, _⟩ := r.val hx q
    exact ⟨d, e1, G1, rfl, r1, s1, p1, v1, h⟩
theorem is_set {i : Nat} {te : TE} {m : Mo Vx} (he : ImE K mg W te m) : ImS K mg W (tAsg te (gName i)) (sSet i m) := by
  intro P G H e σ Dn r h
  refine he P G H e σ _ r (PoS.of h fun x e1 _ h1 G1 H1 v1 r1 s1 p1 x1 => ?_)
  show Dn.nx (σ.set i (some v1)) H1
  cases x with
  | v d =>
    obtain ⟨e2, q, k⟩ := PoS.oNx h1
    exact k G1 H1 _ (r1.set q (.inl ⟨d, rfl, x1⟩)) s1
  | nw d =>
    obtain ⟨e2, q, k⟩ := PoS.oNx h1
    exact k G1 H1 _ (r1.set q (.inr ⟨d, rfl, x1⟩)) s1
  | pl j =>
    obtain ⟨d, e2, G2, qm, r2, s2, p2, v2, h2⟩ := PoS.val (k := fun d e => oNx (setSl i (.fz d) e)) r1 x1 (PoS.later h1 s1)
    obtain ⟨e3, q, k⟩ := PoS.oNx h2
    exact k G2 H1 _ (r2.set q (.inl ⟨d, rfl, v2⟩)) s2
theorem ig_name {i : Nat} : ImG K mg (gName i) (gNm i) := fun P G H e e' σ v d Q r hv h k => k _ (r.set h (.inl ⟨d, rfl, hv⟩))
theorem igs_nil : ImGs K mg gNil gNl := by
  intro P G H e e' σ vs ds Q r hv h k
  cases hv with
  | nil => cases h; exact ⟨rfl, k σ r⟩
  | cons a b => cases h
theorem igs_cons {g : TG} {gr : TGs} {gm : D → En → Option En} {rm : List D → En → Option En} (hg : ImG K mg g gm) (hr : ImGs K mg gr rm) : ImGs K mg (gCons g gr) (gCn gm rm) := by
  intro P G H e e' σ vs ds Q r hv h k
  cases hv with
  | nil => cases h
  | cons a b =>
    rename_i v vs d ds
    have h' : (match gm d e with
      | some e' => rm ds e'
      | none => none) = some e' := h
    cases q : gm d e with
    | none => rw [q] at h'; cases h'
    | some e1 =>
      rw [q] at h'
      exact ⟨v, vs, rfl, hg P G H e e1 σ v d _ r a q fun σ1 r1 => hr P G H e1 e' σ1 vs ds Q r1 b h' k⟩
def gTpN (n : Nat) (gm : List D → En → Option En) : D → En → Option En := fun d e => match d with
  | .tuple ds => if ds.length = n then gm ds e else none
  | _ => none
theorem ig_tup {n : Nat} {g : TGs} {gm : List D → En → Option En} (hg : ImGs K mg g gm) : ImG K mg (gTup K.K n g) (gTpN n gm) := by
  intro P G H e e' σ v d Q r hv h k
  cases d with
  | tuple ds =>
    have h' : (if ds.length = n then gm ds e else none) = some e' := h
    by_cases hl : ds.length = n
    · rw [if_pos hl] at h'
      cases hv with
      | tup a b => exact ⟨_, _, rfl, r.sub.q a, by rw [b.length]; exact hl, hg P G H e e' σ _ ds Q r b h' k⟩
    · rw [if_neg hl] at h'
      cases h'
  | _ => cases h
theorem is_get {te : TE} {m : Mo Vx} {g : TG} {gm : D → En → Option En} (he : ImE K mg W te m) (hg : ImG K mg g gm) : ImS K mg W (tAsg te g) (sGet gm m) := by
  intro P G H e σ Dn r h
  refine he P G H e σ _ r (PoS.of h fun x e1 _ h1 G1 H1 v1 r1 s1 p1 x1 => ?_)
  obtain ⟨d, e2, G2, qm, r2, s2, p2, v2, h2⟩ := PoS.val r1 x1 (h1.later s1)
  obtain ⟨e3, q, k⟩ := PoS.oNx h2
  exact hg P G2 H1 e2 e3 σ v1 d _ r2 v2 q fun σ' r' => k G2 H1 σ' r' s2
theorem is_drop {te : TE} {m : Mo Vx} (he : ImE K mg W te m) : ImS K mg W (tDrop te) (sDrop m) := by
  intro P G H e σ Dn r h
  exact he P G H e σ _ r (PoS.of h fun x e1 _ h1 G1 H1 v1 r1 s1 p1 x1 => h1 G1 H1 σ r1 s1)
theorem is_retN : ImS K mg W tRetN sRetN := fun P G H e σ Dn r h => h G H σ .non r (Sub.refl _) .non
theorem is_ret {te : TE} {m : Mo Vx} (he : ImE K mg W te m) : ImS K mg W (tRet te) (sRet m) := by
  intro P G H e σ Dn r h
  refine he P G H e σ _ r (PoS.of h fun x e1 _ h1 G1 H1 v1 r1 s1 p1 x1 => ?_)
  cases x with
  | v d => exact h1 G1 H1 σ v1 r1 s1 x1
  | nw d =>
    obtain ⟨a, q1, q2, q3, q4, q5⟩ := x1
    exact h1 G1 H1 σ v1 r1 s1 ⟨a, q1, q2, q3, fun i d hi => q4 i _ hi rfl, q5⟩
  | pl j =>
    obtain ⟨q1, t, q2, q3⟩ := x1
    have h1' : PoS K mg P G W Dn (match e1[j]? with
      | some (.ow d) => .rt (.nw d) e1
      | some (.fz d) => .rt (.v d) e1
      | _ => .stuck) := h1
    rw [q2] at h1'
    have sl := r1.slot j t q2
    cases t with
    | un => cases q3
    | bo d => exact h1'.elim
    | fz d =>
      obtain ⟨w, f1, f2⟩ := sl
      rw [q1] at f1
      cases f1
      exact h1' G1 H1 σ v1 r1 s1 f2
    | ow d =>
      obtain ⟨a, f1, f2, f3, f4⟩ := sl
      rw [q1] at f1
      cases f1
      refine h1' G1 H1 σ _ r1 s1 ⟨a, rfl, f2, f3, fun i d' hi hz => ?_, f4⟩
      have hij : i ≠ j := fun z => by
        rw [z, q2] at hi
        cases hi
      exact r1.dist i j _ _ a hij hi q2 rfl rfl hz q1
theorem is_brk : ImS K mg W tBreak sBrk := fun P G H e σ Dn r h => h G H σ r (Sub.refl _)
theorem is_cnt : ImS K mg W tCont sCnt := fun P G H e σ Dn r h => h G H σ r (Sub.refl _)
theorem is_never : ImS K mg W tNever sNever := fun P G H e σ Dn r h => h.elim
/-! ### a def's body -/
def fnOuts : List Sl → En → List Sl
  | .bo _ :: as, .bo d :: es => .bo d :: fnOuts as es
  | _ :: as, _ :: es => .un :: fnOuts as es
  | [], _ => []
  | _ :: as, [] => .un :: fnOuts as []
/-- a def of n names -/
def mFn (n : Nat) (m : So) : Fn := fun args => match m (args ++ List.replicate (n - args.length) .un) with
  | .rt x e => .ok x (fnOuts args e)
  | .nx e => .ok (.v .none) (fnOuts args e)
  | .exc z e => .exc z (fnOuts args e)
  | _ => .stuck
theorem fnOuts_get : ∀ {as es : List Sl}, (fnOuts as es).length = as.length ∧ ∀ (i : Nat) (s : Sl), (fnOuts as es)[i]? = some s → s = .un ∨ ∃ d d', s = .bo d ∧ es[i]? = some (.bo d) ∧ as[i]? = some (.bo d')
  | [], es => by
    have e : fnOuts [] es = [] := by unfold fnOuts; cases es <;> rfl
    rw [e]
    exact ⟨rfl, fun i s h => by simp at h⟩
  | a :: as, [] => by
    obtain ⟨l, g⟩ := fnOuts_get (as := as) (es := [])
    have e : fnOuts (a :: as) [] = .un :: fnOuts as [] := by cases a <;> rfl
    rw [e]
    refine ⟨congrArg Nat.succ l, fun i t ht => ?_⟩
    cases i with
    | zero => simp at ht; exact .inl ht.symm
    | succ i =>
      rcases g i t (by simpa using ht) with h | ⟨d, d', h1, h2, h3⟩
      · exact .inl h
      · simp at h2
  | a :: as, s :: es => by
    obtain ⟨l, g⟩ := fnOuts_get (as := as) (es := es)
    have two : (∃ d d', a = .bo d' ∧ s = .bo d ∧ fnOuts (a :: as) (s :: es) = .bo d :: fnOuts as es) ∨ fnOuts (a :: as) (s :: es) = .un :: fnOuts as es := by
      cases a with
      | bo d' => cases s with
        | bo d => exact .inl ⟨d, d', rfl, rfl, rfl⟩
        | _ => exact .inr rfl
      | _ => exact .inr rfl
    rcases two with ⟨d, d', rfl, rfl, e⟩ | e
    · rw [e]
      refine ⟨congrArg Nat.succ l, fun i t ht => ?_⟩
      cases i with
      | zero => simp at ht; exact .inr ⟨d, d', ht.symm, rfl, rfl⟩
      | succ i => simpa using g i t (by simpa using ht)
    · rw [e]
      refine ⟨congrArg Nat.succ l, fun i t ht => ?_⟩
      cases i with
      | zero => simp at ht; exact .inl ht.symm
      | succ i => simpa using g i t (by simpa using ht)
theorem start_get {N : List Str} {vs : List V} {i : Nat} (h : i < vs.length) : (L2.start N vs)[i]? = (vs.map some)[i]? := by
  unfold L2.start
  rw [List.getElem?_append_left (by simpa using h)]
/-- THE RULE of a body: it keeps the promise FSp of the mirror mFn -/
theorem fn_body {N : List Str} {ts : TS} {m : So} {vs : List V} {Q : VK} {E : XK} (hm : ImS K mg (fun cls d _ H => E cls d H) ts m) (hl : vs.length ≤ N.length) (h : FSp K mg (mFn N.length m) vs H Q E) :
    ts { nx := fun _ H' => Q .non H', rt := Q } (L2.start N vs) H := by
  obtain ⟨P, G, args, r, hB, h⟩ := h
  have al : args.length = vs.length := by
    have := r.len
    rw [List.length_map] at this
    exact this.symm
  have r0 : Rel K mg P G H (args ++ List.replicate (N.length - args.length) .un) (L2.start N vs) := by
    refine ⟨r.sub, r.prot, r.gp, ?_, fun i s hs => ?_, fun i j s t a hij hi hj os ot h1 h2 => ?_⟩
    · unfold L2.start
      simp only [List.length_append, List.length_map, List.length_replicate]
      omega
    · by_cases hi : i < args.length
      · rw [List.getElem?_append_left hi] at hs
        have q := r.slot i s hs
        rw [start_get (by omega)]
        exact q
      · rw [List.getElem?_append_right (by omega), List.getElem?_replicate] at hs
        split at hs
        · cases hs; trivial
        · cases hs
    · have low : ∀ (k : Nat) (u : Sl), (args ++ List.replicate (N.length - args.length) .un)[k]? = some u → u.isO = true → k < args.length ∧ args[k]? = some u := fun k u hk ou => by
        by_cases hlt : k < args.length
        · rw [List.getElem?_append_left hlt] at hk
          exact ⟨hlt, hk⟩
        · rw [List.getElem?_append_right (by omega), List.getElem?_replicate] at hk
          split at hk
          · cases hk; cases ou
          · cases hk
      obtain ⟨l1, g1⟩ := low i s hi os
      obtain ⟨l2, g2⟩ := low j t hj ot
      rw [start_get (by omega)] at h1 h2
      exact r.dist i j s t a hij g1 g2 os ot h1 h2
  -- behind the body: the objects that were lent
  have fin : ∀ {e' : En} {G' H' : Hp} {σ' : L2.St}, Rel K mg P G' H' e' σ' → Rel K mg P G' H' (fnOuts args e') (vs.map some) ∧ ∀ (i : Nat) (s : Sl), (fnOuts args e')[i]? = some s → s.isO = true → ∃ d, e'[i]? = some (.bo d) ∧ (vs.map some)[i]? = σ'[i]? := by
    intro e' G' H' σ' r'
    obtain ⟨ol, og⟩ := fnOuts_get (as := args) (es := e')
    have same : ∀ (i : Nat) (s : Sl), (fnOuts args e')[i]? = some s → s.isO = true → ∃ d, s = .bo d ∧ e'[i]? = some (.bo d) ∧ (vs.map some)[i]? = σ'[i]? := by
      intro i s hs os
      rcases og i s hs with rfl | ⟨d, d', rfl, h1, h2⟩
      · cases os
      · obtain ⟨a, e1, eb, _⟩ := r'.slot i _ h1
        obtain ⟨b, f1, fb, _⟩ := r.slot i _ h2
        rw [eb] at fb
        cases fb
        exact ⟨d, rfl, h1, by rw [e1, f1]⟩
    refine ⟨⟨r'.sub, r'.prot, r'.gp, by rw [List.length_map, ol, al], fun i s hs => ?_, fun i j s t a hij hi hj os ot h1 h2 => ?_⟩, fun i s hs os => ?_⟩
    · rcases og i s hs with rfl | ⟨d, d', rfl, h1, h2⟩
      · trivial
      · obtain ⟨d2, _, h3, h4⟩ := same i _ hs rfl
        have q := r'.slot i _ h1
        rw [h4]
        exact q
    · obtain ⟨d1, rfl, k1, g1⟩ := same i s hi os
      obtain ⟨d2, rfl, k2, g2⟩ := same j t hj ot
      rw [g1] at h1
      rw [g2] at h2
      exact r'.dist i j _ _ a hij k1 k2 rfl rfl h1 h2
    · obtain ⟨d, _, h3, h4⟩ := same i s hs os
      exact ⟨d, h3, h4⟩
  refine hm P G H _ _ _ r0 ?_
  unfold mFn at h
  cases q : m (args ++ List.replicate (N.length - args.length) .un) with
  | stuck => rw [q] at h; exact h.elim
  | bk e' => rw [q] at h; exact h.elim
  | ct e' => rw [q] at h; exact h.elim
  | nx e' =>
    rw [q] at h
    intro G' H' σ' r' s'
    exact h G' H' .non (fin r').1 s' .non
  | rt x e' =>
    rw [q] at h
    intro G' H' σ' v r' s' rr
    obtain ⟨f1, f2⟩ := fin r'
    refine h G' H' v f1 s' ?_
    cases x with
    | v d => exact rr
    | pl i => exact rr.elim
    | nw d =>
      obtain ⟨a, h1, h2, h3, h4, h5⟩ := rr
      refine ⟨a, h1, h2, h3, fun i s hs os hz => ?_, h5⟩
      obtain ⟨d', g1, g2⟩ := f2 i s hs os
      rw [g2] at hz
      exact h4 i d' g1 hz
  | exc z e' =>
    rw [q] at h
    intro G' H' σ' cls d r' s' xc
    exact h G' H' cls d (fin r').1 s' xc
end
end Fw
set_option Elab.async false
set_option linter.all false
set_option maxRecDepth 100000
set_option maxHeartbeats 1000000
/-! Fw6: loops, comprehensions. -/
namespace Fw
open PySem PySem.Spec PyProof.Rows L2
/-- what a turn gives: a value; raw: a new tuple of values, to be unpacked at once -/
def Rt (K : Kx) (mg : Str → Option Value) (raw : Bool) (G H : Hp) (v : V) (d : D) : Prop := match raw with
  | false => Rp K mg G v d
  | true => ∃ (p : Addr) (vs : List V) (ds : List D), v = .ref p ∧ d = .tuple ds ∧ SqT K.K H p vs ∧ Rl K mg G vs ds
/-- a thing that is walked gives these values -/
structure Wk (K : Kx) (mg : Str → Option Value) (raw : Bool) (P : Pr) (G0 : Hp) (J : It) (items : List D) : Prop where
  go : ∀ (i : Nat) (G H : Hp) (e : En) (σ : L2.St), i < items.length → Rel K mg P G H e σ → Sub G0 G → J.go i H
  stop : ∀ (G H : Hp) (e : En) (σ : L2.St), Rel K mg P G H e σ → Sub G0 G → J.stop items.length H
  yld : ∀ (i : Nat) (d : D) (G H : Hp) (e : En) (σ : L2.St) (x : V) (H' : Hp), items[i]? = some d → Rel K mg P G H e σ → Sub G0 G → J.yld i H x H' → ∃ G', Rel K mg P G' H' e σ ∧ Sub G G' ∧ Rt K mg raw G' H' x d ∧ Sub H H' ∧ ∀ a o, H a = some o → G' a = G a
def ImI (K : Kx) (mg : Str → Option Value) (raw : Bool) (W : WX) (wi : TI) (m : Mo (List D)) : Prop := ∀ (P : Pr) (G H : Hp) (e : En) (σ : L2.St) (R : It → Hp → Prop), Rel K mg P G H e σ →
  Po K mg P G σ W e (fun P G H e J ds => Wk K mg raw P G J ds) R (m e) → wi σ H R
/-- a target of a loop -/
def ImGt (K : Kx) (mg : Str → Option Value) (raw : Bool) (g : TG) (gm : D → En → Option En) : Prop := ∀ (P : Pr) (G H : Hp) (e e' : En) (σ : L2.St) (v : V) (d : D) (Q : L2.St → Hp → Prop), Rel K mg P G H e σ → Rt K mg raw G H v d → gm d e = some e' →
  (∀ σ', Rel K mg P G H e' σ' → Q σ' H) → g v σ H Q
def forL (gm : D → En → Option En) (body : So) : List D → So
  | [], e => .nx e
  | d :: ds, e => match gm d e with
    | none => .stuck
    | some e1 => (match body e1 with
      | .nx e2 => forL gm body ds e2
      | .ct e2 => forL gm body ds e2
      | .bk e2 => .nx e2
      | o => o)
def sFor (gm : D → En → Option En) (mi : Mo (List D)) (body : So) : So := sOf mi fun ds => forL gm body ds
def whileL (c : Mo Bool) (body : So) : Nat → So
  | 0, _ => .stuck
  | n + 1, e => sOf c (fun k => if k = true then fun e1 => (match body e1 with
      | .nx e2 => whileL c body n e2
      | .ct e2 => whileL c body n e2
      | .bk e2 => .nx e2
      | o => o) else fun e1 => .nx e1) e
section
variable {K : Kx} {mg : Str → Option Value} {W : WX}
variable {P P' : Pr} {G G' H H' : Hp} {e e' : En} {σ σ' : L2.St} {v : V} {x : Vx} {Dn : Ends}
theorem igt {g : TG} {gm : D → En → Option En} (h : ImG K mg g gm) : ImGt K mg false g gm := h
theorem igt_tup {n : Nat} {g : TGs} {gm : List D → En → Option En} (hg : ImGs K mg g gm) : ImGt K mg true (gTup K.K n g) (gTpN n gm) := by
  intro P G H e e' σ v d Q r hv h k
  obtain ⟨p, vs, ds, rfl, rfl, a, b⟩ := hv
  have h' : (if ds.length = n then gm ds e else none) = some e' := h
  by_cases hl : ds.length = n
  · rw [if_pos hl] at h'
    exact ⟨_, _, rfl, a, by rw [b.length]; exact hl, hg P G H e e' σ _ ds Q r b h' k⟩
  · rw [if_neg hl] at h'
    cases h'
theorem is_for {raw : Bool} {wi : TI} {g : TG} {tb : TS} {mi : Mo (List D)} {gm : D → En → Option En} {body : So} (hi : ImI K mg raw W wi mi) (hg : ImGt K mg raw g gm) (hb : ImS K mg W tb body) : ImS K mg W (tFor wi g tb) (sFor gm mi body) := by
  intro P G H e σ Dn r h
  refine hi P G H e σ _ r (PoS.of h fun ds e1 _ h1 G1 H1 J r1 s1 p1 wk => ?_)
  have h1 := h1.later s1
  refine ⟨fun i m σ H => m = ds.length - i ∧ i ≤ ds.length ∧ ∃ G e, Rel K mg P G H e σ ∧ Sub G1 G ∧ PoS K mg P G1 W Dn (forL gm body (ds.drop i) e), ⟨ds.length, by simp, Nat.zero_le _, G1, e1, r1, Sub.refl _, h1⟩, ?_⟩
  rintro i m σ2 H2 ⟨rfl, hi, G2, e2, r2, s2, h2⟩
  by_cases hlt : i < ds.length
  · have hd : ds.drop i = ds[i] :: ds.drop (i + 1) := List.drop_eq_getElem_cons hlt
    rw [hd] at h2
    refine .inr ⟨wk.go i G2 H2 e2 σ2 hlt r2 s2, fun σ' H' => ∃ G e, Rel K mg P G H' e σ' ∧ Sub G1 G ∧ PoS K mg P G1 W Dn (forL gm body (ds.drop (i + 1)) e), fun σ' H' q => ⟨ds.length - (i + 1), by omega, rfl, hlt, q⟩, fun x H' y => ?_⟩
    obtain ⟨G3, r3, s3, v3, _⟩ := wk.yld i ds[i] G2 H2 e2 σ2 x H' (List.getElem?_eq_getElem hlt) r2 s2 y
    have h2' : PoS K mg P G1 W Dn (match gm ds[i] e2 with
      | none => .stuck
      | some e1 => (match body e1 with
        | .nx e2 => forL gm body (ds.drop (i + 1)) e2
        | .ct e2 => forL gm body (ds.drop (i + 1)) e2
        | .bk e2 => .nx e2
        | o => o)) := h2
    cases q : gm ds[i] e2 with
    | none => rw [q] at h2'; exact h2'.elim
    | some e3 =>
      rw [q] at h2'
      dsimp only at h2'
      refine hg P G3 H' e2 e3 σ2 x ds[i] _ r3 v3 q fun σ4 r4 => ?_
      refine hb P G3 H' e3 σ4 _ r4 ?_
      have s13 := s2.trans s3
      cases q2 : body e3 with
      | nx e5 =>
        rw [q2] at h2'
        exact fun G' H' σ' r' s' => ⟨G', e5, r', s13.trans s', h2'⟩
      | ct e5 =>
        rw [q2] at h2'
        exact fun G' H' σ' r' s' => ⟨G', e5, r', s13.trans s', h2'⟩
      | bk e5 =>
        rw [q2] at h2'
        exact fun G' H' σ' r' s' => h2' G' H' σ' r' (s13.trans s')
      | rt x e5 =>
        rw [q2] at h2'
        exact fun G' H' σ' v r' s' => h2' G' H' σ' v r' (s13.trans s')
      | exc x e5 =>
        rw [q2] at h2'
        exact fun G' H' σ' cls d r' s' => h2' G' H' σ' cls d r' (s13.trans s')
      | stuck => rw [q2] at h2'; exact h2'.elim
  · have e : i = ds.length := by omega
    subst e
    rw [List.drop_length] at h2
    exact .inl ⟨wk.stop G2 H2 e2 σ2 r2 s2, h2 G2 H2 σ2 r2 s2⟩
theorem is_while {c : TT} {tb : TS} {k : Mo Bool} {body : So} (n : Nat) (hc : ImT K mg W c k) (hb : ImS K mg W tb body) : ImS K mg W (tWhile c tb) (whileL k body n) := by
  intro P G H e σ Dn r h
  refine ⟨fun m σ H => ∃ G2 e, Rel K mg P G2 H e σ ∧ Sub G G2 ∧ PoS K mg P G W Dn (whileL k body m e), ⟨n, G, e, r, Sub.refl _, h⟩, ?_⟩
  rintro m σ2 H2 ⟨G2, e2, r2, s2, h2⟩
  cases m with
  | zero => exact h2.elim
  | succ m =>
    refine hc P G2 H2 e2 σ2 _ r2 (Po.later (PoS.of (e := e2) (σ := σ2) (k := fun k' => if k' = true then fun e1 => (match body e1 with
      | .nx e2 => whileL k body m e2
      | .ct e2 => whileL k body m e2
      | .bk e2 => .nx e2
      | o => o) else fun e1 => .nx e1) h2 fun b e3 _ h3 G3 H3 v3 r3 s3 p3 x3 => ?_) s2 (Shp.refl _))
    subst x3
    cases v3 with
    | false =>
      rw [if_neg Bool.false_ne_true] at h3 ⊢
      exact h3 G3 H3 σ2 r3 s3
    | true =>
      rw [if_pos rfl] at h3 ⊢
      refine ⟨fun σ' H' => ∃ G4 e, Rel K mg P G4 H' e σ' ∧ Sub G G4 ∧ PoS K mg P G W Dn (whileL k body m e), fun σ' H' q => ⟨m, Nat.lt_succ_self m, q⟩, ?_⟩
      refine hb P G3 H3 e3 σ2 _ r3 ?_
      cases q2 : body e3 with
      | nx e5 =>
        rw [q2] at h3
        exact fun G' H' σ' r' s' => ⟨G', e5, r', s3.trans s', h3⟩
      | ct e5 =>
        rw [q2] at h3
        exact fun G' H' σ' r' s' => ⟨G', e5, r', s3.trans s', h3⟩
      | bk e5 =>
        rw [q2] at h3
        exact fun G' H' σ' r' s' => h3 G' H' σ' r' (s3.trans s')
      | rt x e5 =>
        rw [q2] at h3
        exact PoS.later h3 s3
      | exc x e5 =>
        rw [q2] at h3
        exact PoS.later h3 s3
      | stuck =>
        rw [q2] at h3
        exact h3.elim
/-! ### list comprehensions -/
theorem Rel.wipe1 (r : Rel K mg P G H e σ) (i : Nat) : Rel K mg P G H (e.set i .un) (σ.set i none) := by
  have old : ∀ (j : Nat) (t : Sl), (e.set i .un)[j]? = some t → t.isO = true → e[j]? = some t ∧ j ≠ i := fun j t q ho => by
    by_cases hj : i = j
    · subst hj
      by_cases hl : i < e.length
      · rw [List.getElem?_set_self hl] at q
        cases q
        cases ho
      · rw [List.getElem?_eq_none (by simpa using hl)] at q
        cases q
    · rw [List.getElem?_set_ne hj] at q
      exact ⟨q, Ne.symm hj⟩
  refine ⟨r.sub, r.prot, r.gp, by rw [List.length_set, List.length_set]; exact r.len, fun j t hj => ?_, fun j k t u a hjk hj hk ot ou h1 h2 => ?_⟩
  · by_cases hji : i = j
    · subst hji
      by_cases hl : i < e.length
      · rw [List.getElem?_set_self hl] at hj
        cases hj
        trivial
      · rw [List.getElem?_eq_none (by simpa using hl)] at hj
        cases hj
    · rw [List.getElem?_set_ne hji] at hj ⊢
      exact r.slot j t hj
  · obtain ⟨g1, n1⟩ := old j t hj ot
    obtain ⟨g2, n2⟩ := old k u hk ou
    rw [List.getElem?_set_ne (Ne.symm n1)] at h1
    rw [List.getElem?_set_ne (Ne.symm n2)] at h2
    exact r.dist j k t u a hjk g1 g2 ot ou h1 h2
/-- the comprehension's own slots are empty -/
def wipeE (e : En) : List Nat → En
  | [] => e
  | i :: vs => (wipeE e vs).set i .un
theorem Rel.wipe (r : Rel K mg P G H e σ) : ∀ vs : List Nat, Rel K mg P G H (wipeE e vs) (L2.wipe σ vs)
  | [] => r
  | i :: vs => (Rel.wipe r vs).wipe1 i
theorem wipeE_len : ∀ vs : List Nat, (wipeE e vs).length = e.length
  | [] => rfl
  | i :: vs => by
    show ((wipeE e vs).set i .un).length = _
    rw [List.length_set, wipeE_len vs]
theorem wipeE_out {i : Nat} : ∀ {vs : List Nat}, i ∉ vs → (wipeE e vs)[i]? = e[i]?
  | [], _ => rfl
  | v :: vs, h => by
    have h1 : v ≠ i := fun z => h (by rw [z]; exact List.mem_cons_self)
    have h2 : i ∉ vs := fun m => h (List.mem_cons_of_mem _ m)
    show ((wipeE e vs).set v .un)[i]? = _
    rw [List.getElem?_set_ne h1, wipeE_out h2]
theorem wipeE_in {i : Nat} {s : Sl} : ∀ {vs : List Nat}, i ∈ vs → (wipeE e vs)[i]? = some s → s = .un
  | [], h, _ => by simp at h
  | v :: vs, h, q => by
    have q' : ((wipeE e vs).set v .un)[i]? = some s := q
    by_cases hv : v = i
    · subst hv
      by_cases hl : v < (wipeE e vs).length
      · rw [List.getElem?_set_self hl] at q'
        exact (Option.some.inj q').symm
      · rw [List.getElem?_eq_none (by simpa using hl)] at q'
        cases q'
    · rw [List.getElem?_set_ne hv] at q'
      refine wipeE_in ?_ q'
      rcases List.mem_cons.mp h with z | z
      · exact (hv z.symm).elim
      · exact z
/-- .. and have their values back -/
def restE (e eN : En) : List Nat → En
  | [] => eN
  | i :: vs => (restE e eN vs).set i ((e[i]?).getD .un)
theorem restE_len {eN : En} : ∀ vs : List Nat, (restE e eN vs).length = eN.length
  | [] => rfl
  | i :: vs => by
    show ((restE e eN vs).set i _).length = _
    rw [List.length_set, restE_len vs]
theorem restE_out {eN : En} {i : Nat} : ∀ {vs : List Nat}, i ∉ vs → (restE e eN vs)[i]? = eN[i]?
  | [], _ => rfl
  | v :: vs, h => by
    have h1 : v ≠ i := fun z => h (by rw [z]; exact List.mem_cons_self)
    have h2 : i ∉ vs := fun m => h (List.mem_cons_of_mem _ m)
    show ((restE e eN vs).set v _)[i]? = _
    rw [List.getElem?_set_ne h1, restE_out h2]
theorem restE_in {eN : En} (hl : eN.length = e.length) {i : Nat} {s : Sl} : ∀ {vs : List Nat}, i ∈ vs → (restE e eN vs)[i]? = some s → e[i]? = some s
  | [], h, _ => by simp at h
  | v :: vs, h, q => by
    have q' : ((restE e eN vs).set v ((e[v]?).getD .un))[i]? = some s := q
    by_cases hv : v = i
    · subst hv
      by_cases hlt : v < (restE e eN vs).length
      · rw [List.getElem?_set_self hlt] at q'
        rw [restE_len, hl] at hlt
        rw [List.getElem?_eq_getElem hlt] at q' ⊢
        exact q'
      · rw [List.getElem?_eq_none (by simpa using hlt)] at q'
        cases q'
    · rw [List.getElem?_set_ne hv] at q'
      refine restE_in hl ?_ q'
      rcases List.mem_cons.mp h with z | z
      · exact (hv z.symm).elim
      · exact z
/-- none of the comprehension's own slots holds an object -/
def ownOk (e : En) (vs : List Nat) : Bool := vs.all fun i => match e[i]? with
  | some .un => true
  | some (.fz _) => true
  | _ => false
theorem ownOk_get {vs : List Nat} (h : ownOk e vs = true) {i : Nat} (hi : i ∈ vs) {s : Sl} (hs : e[i]? = some s) : s.isO = false := by
  have q := List.all_eq_true.mp h i hi
  rw [hs] at q
  cases s <;> first | rfl | cases q
/-- a target among the comprehension's own names -/
def ImC (K : Kx) (mg : Str → Option Value) (vs : List Nat) (g : TG) (gm : D → En → Option En) : Prop := ∀ (P : Pr) (G H : Hp) (e e' : En) (σ : L2.St) (v : V) (d : D) (Q : L2.St → Hp → Prop), Rel K mg P G H e σ → Rp K mg G v d → gm d e = some e' →
  (∀ σ', Rel K mg P G H e' σ' → L2.wipe σ' vs = L2.wipe σ vs → wipeE e' vs = wipeE e vs → Q σ' H) → g v σ H Q
def ImCs (K : Kx) (mg : Str → Option Value) (vs : List Nat) (g : TGs) (gm : List D → En → Option En) : Prop := ∀ (P : Pr) (G H : Hp) (e e' : En) (σ : L2.St) (ws : List V) (ds : List D) (Q : L2.St → Hp → Prop), Rel K mg P G H e σ → Rl K mg G ws ds → gm ds e = some e' →
  (∀ σ', Rel K mg P G H e' σ' → L2.wipe σ' vs = L2.wipe σ vs → wipeE e' vs = wipeE e vs → Q σ' H) → g ws σ H Q
theorem wipe_set {α : Type} {w : α} (f : List α → List Nat → List α) (hf0 : ∀ l, f l [] = l) (hf : ∀ l v vs, f l (v :: vs) = (f l vs).set v w) (l : List α) (x : α) (i : Nat) : ∀ vs : List Nat, i ∈ vs → f (l.set i x) vs = f l vs
  | [], h => by simp at h
  | v :: vs, h => by
    rw [hf, hf]
    by_cases hi : i ∈ vs
    · rw [wipe_set f hf0 hf l x i vs hi]
    · have hv : v = i := by
        rcases List.mem_cons.mp h with z | z
        · exact z.symm
        · exact (hi z).elim
      subst hv
      have go : ∀ us : List Nat, v ∉ us → f (l.set v x) us = (f l us).set v x := by
        intro us
        induction us with
        | nil => intro _; rw [hf0, hf0]
        | cons u us ih =>
          intro hu
          have h1 : u ≠ v := fun z => hu (by rw [z]; exact List.mem_cons_self)
          have h2 : v ∉ us := fun m => hu (List.mem_cons_of_mem _ m)
          rw [hf, hf, ih h2, List.set_comm _ _ h1.symm]
      rw [go vs hi, List.set_set]
theorem ic_name {vs : List Nat} {i : Nat} (hi : i ∈ vs) : ImC K mg vs (gName i) (gNm i) := fun P G H e e' σ v d Q r hv h k => by
  obtain ⟨he, _, _⟩ := setSl_some h
  subst he
  exact k _ (r.set h (.inl ⟨d, rfl, hv⟩)) (wipe_set (w := none) L2.wipe (fun _ => rfl) (fun _ _ _ => rfl) σ _ i vs hi) (wipe_set (w := Sl.un) wipeE (fun _ => rfl) (fun _ _ _ => rfl) e _ i vs hi)
theorem ics_nil {vs : List Nat} : ImCs K mg vs gNil gNl := by
  intro P G H e e' σ ws ds Q r hv h k
  cases hv with
  | nil => cases h; exact ⟨rfl, k σ r rfl rfl⟩
  | cons a b => cases h
theorem ics_cons {vs : List Nat} {g : TG} {gr : TGs} {gm : D → En → Option En} {rm : List D → En → Option En} (hg : ImC K mg vs g gm) (hr : ImCs K mg vs gr rm) : ImCs K mg vs (gCons g gr) (gCn gm rm) := by
  intro P G H e e' σ ws ds Q r hv h k
  cases hv with
  | nil => cases h
  | cons a b =>
    rename_i v ws d ds
    have h' : (match gm d e with
      | some e' => rm ds e'
      | none => none) = some e' := h
    cases q : gm d e with
    | none => rw [q] at h'; cases h'
    | some e1 =>
      rw [q] at h'
      exact ⟨v, ws, rfl, hg P G H e e1 σ v d _ r a q fun σ1 r1 w1 u1 => hr P G H e1 e' σ1 ws ds Q r1 b h' fun σ2 r2 w2 u2 => k σ2 r2 (w2.trans w1) (u2.trans u1)⟩
theorem ic_tup {vs : List Nat} {n : Nat} {g : TGs} {gm : List D → En → Option En} (hg : ImCs K mg vs g gm) : ImC K mg vs (gTup K.K n g) (gTpN n gm) := by
  intro P G H e e' σ v d Q r hv h k
  cases d with
  | tuple ds =>
    have h' : (if ds.length = n then gm ds e else none) = some e' := h
    by_cases hl : ds.length = n
    · rw [if_pos hl] at h'
      cases hv with
      | tup a b => exact ⟨_, _, rfl, r.sub.q a, by rw [b.length]; exact hl, hg P G H e e' σ _ ds Q r b h' k⟩
    · rw [if_neg hl] at h'
      cases h'
  | _ => cases h
/-- .. of a comprehension's loop -/
def ImCt (K : Kx) (mg : Str → Option Value) (raw : Bool) (vs : List Nat) (g : TG) (gm : D → En → Option En) : Prop := ∀ (P : Pr) (G H : Hp) (e e' : En) (σ : L2.St) (v : V) (d : D) (Q : L2.St → Hp → Prop), Rel K mg P G H e σ → Rt K mg raw G H v d → gm d e = some e' →
  (∀ σ', Rel K mg P G H e' σ' → L2.wipe σ' vs = L2.wipe σ vs → wipeE e' vs = wipeE e vs → Q σ' H) → g v σ H Q
theorem ict {vs : List Nat} {g : TG} {gm : D → En → Option En} (h : ImC K mg vs g gm) : ImCt K mg false vs g gm := h
theorem ict_tup {vs : List Nat} {n : Nat} {g : TGs} {gm : List D → En → Option En} (hg : ImCs K mg vs g gm) : ImCt K mg true vs (gTup K.K n g) (gTpN n gm) := by
  intro P G H e e' σ v d Q r hv h k
  obtain ⟨p, ws, ds, rfl, rfl, a, b⟩ := hv
  have h' : (if ds.length = n then gm ds e else none) = some e' := h
  by_cases hl : ds.length = n
  · rw [if_pos hl] at h'
    exact ⟨_, _, rfl, a, by rw [b.length]; exact hl, hg P G H e e' σ _ ds Q r b h' k⟩
  · rw [if_neg hl] at h'
    cases h'
/-- the turns -/
def lcL (vs : List Nat) (gm : D → En → Option En) (mt : Mo Bool) (me : Mo Vx) : List D → List D → Mo (List D)
  | [], acc, e => .ok acc e
  | d :: ds, acc, e => match gm d e with
    | none => .stuck
    | some e1 => (match mt e1 with
      | .ok true e2 => (match me e2 with
        | .ok x e3 => (match mVal x e3 with
          | .ok y e4 => if acc.length < sizeLine then lcL vs gm mt me ds (acc ++ [y]) (wipeE e4 vs) else .stuck
          | _ => .stuck)
        | _ => .stuck)
      | .ok false e2 => lcL vs gm mt me ds acc (wipeE e2 vs)
      | _ => .stuck)
def mLc (vs : List Nat) (gm : D → En → Option En) (mi : Mo (List D)) (mt : Mo Bool) (me : Mo Vx) : Mo Vx := mBind mi fun ds e => if ownOk e vs = true then (match lcL vs gm mt me ds [] (wipeE e vs) with
  | .ok acc eN => .ok (.nw (.list acc)) (restE e eN vs)
  | _ => .stuck) else .stuck
def W0 : WX := fun _ _ _ _ => False
/-- an object that is nobody's is changed -/
theorem Rel.mut (r : Rel K mg P G H e σ) {a : Addr} {o : HO} (hp : P.Prot a = none) (hg : G a = none) (hn : ∀ (i : Nat) (s : Sl), e[i]? = some s → s.isO = true → σ[i]? ≠ some (some (V.ref a))) : Rel K mg P G (upd H a o) e σ where
  sub := fun b u h => by
    rw [upd_ne (ne_of_none h hg)]
    exact r.sub b u h
  prot := fun b u h => by
    rw [upd_ne (ne_of_none h hp)]
    exact r.prot b u h
  gp := r.gp
  len := r.len
  slot := fun i t h => by
    have q := r.slot i t h
    have mv : ∀ b : Addr, b ≠ a → ∀ o', H b = some o' → upd H a o b = some o' := fun b hb o' ho => by rw [upd_ne hb]; exact ho
    cases t with
    | un => trivial
    | fz d => exact q
    | ow d => obtain ⟨b, e1, e2, e3, e4⟩ := q; exact ⟨b, e1, e2, e3, e4.move (mv b fun z => hn i _ h rfl (by rw [e1, z]))⟩
    | bo d => obtain ⟨b, e1, eb, e2, e3, e4⟩ := q; exact ⟨b, e1, eb, e2, e3, e4.move (mv b fun z => hn i _ h rfl (by rw [e1, z]))⟩
  dist := r.dist
theorem Shp.wipe {e2 : En} (vs : List Nat) (h : Shp e e2) : Shp (wipeE e vs) (wipeE e2 vs) := by
  refine ⟨by rw [wipeE_len, wipeE_len, h.1], fun i s hs => ?_⟩
  by_cases hi : i ∈ vs
  · have z := wipeE_in hi hs
    subst z
    have hl : i < (wipeE e2 vs).length := by
      rw [wipeE_len, h.1, ← wipeE_len vs]
      exact (List.getElem?_eq_some_iff.mp hs).1
    have q := List.getElem?_eq_getElem hl
    exact ⟨_, q, wipeE_in hi q⟩
  · rw [wipeE_out hi] at hs
    obtain ⟨t, h1, h2⟩ := h.2 i s hs
    exact ⟨t, by rw [wipeE_out hi]; exact h1, h2⟩
theorem set_noop {α : Type} {l : List α} {i : Nat} {w : α} (h : ∀ x, l[i]? = some x → x = w) : l.set i w = l := by
  refine List.ext_getElem? fun j => ?_
  by_cases hj : i = j
  · subst hj
    by_cases hl : i < l.length
    · rw [List.getElem?_set_self hl, List.getElem?_eq_getElem hl]
      exact congrArg some (h _ (List.getElem?_eq_getElem hl)).symm
    · rw [List.getElem?_eq_none (by simpa using hl), List.getElem?_eq_none (by simpa using hl)]
  · rw [List.getElem?_set_ne hj]
theorem wipeE_idem {vs : List Nat} : ∀ us : List Nat, (∀ i ∈ us, i ∈ vs) → wipeE (wipeE e vs) us = wipeE e vs
  | [], _ => rfl
  | u :: us, hu => by
    show (wipeE (wipeE e vs) us).set u .un = _
    rw [wipeE_idem us fun i hi => hu i (List.mem_cons_of_mem _ hi)]
    exact set_noop fun x hx => wipeE_in (hu u List.mem_cons_self) hx
theorem wipe_in {i : Nat} {x : Option V} : ∀ {vs : List Nat}, i ∈ vs → (L2.wipe σ vs)[i]? = some x → x = none
  | [], h, _ => by simp at h
  | v :: vs, h, q => by
    have q' : ((L2.wipe σ vs).set v none)[i]? = some x := q
    by_cases hv : v = i
    · subst hv
      by_cases hl : v < (L2.wipe σ vs).length
      · rw [List.getElem?_set_self hl] at q'
        exact (Option.some.inj q').symm
      · rw [List.getElem?_eq_none (by simpa using hl)] at q'
        cases q'
    · rw [List.getElem?_set_ne hv] at q'
      refine wipe_in ?_ q'
      rcases List.mem_cons.mp h with z | z
      · exact (hv z.symm).elim
      · exact z
theorem wipe_idem {vs : List Nat} : ∀ us : List Nat, (∀ i ∈ us, i ∈ vs) → L2.wipe (L2.wipe σ vs) us = L2.wipe σ vs
  | [], _ => rfl
  | u :: us, hu => by
    show (L2.wipe (L2.wipe σ vs) us).set u none = _
    rw [wipe_idem us fun i hi => hu i (List.mem_cons_of_mem _ hi)]
    exact set_noop fun x hx => wipe_in (hu u List.mem_cons_self) hx
/-- behind a comprehension's turns the slots have their values back -/
theorem Rel.rest {vs : List Nat} {e1 eN : En} {G1 H1 : Hp} (r1 : Rel K mg P G1 H1 e1 σ) (ow : ownOk e1 vs = true) (r2 : Rel K mg P G H eN (L2.wipe σ vs)) (s : Sub G1 G) (p : Shp (wipeE e1 vs) eN) :
    Rel K mg P G H (restE e1 eN vs) σ ∧ Shp e1 (restE e1 eN vs) ∧ ∀ v x, x.isP = false → Rx K mg P G H eN (L2.wipe σ vs) v x → Rx K mg P G H (restE e1 eN vs) σ v x := by
  have ln : eN.length = e1.length := by rw [p.1, wipeE_len]
  have outO : ∀ (i : Nat) (t : Sl), (restE e1 eN vs)[i]? = some t → t.isO = true → i ∉ vs ∧ eN[i]? = some t ∧ (L2.wipe σ vs)[i]? = σ[i]? := fun i t ht ho => by
    by_cases hi : i ∈ vs
    · have q := ownOk_get ow hi (restE_in ln hi ht)
      rw [ho] at q
      cases q
    · rw [restE_out hi] at ht
      exact ⟨hi, ht, L2.wipe_out hi⟩
  refine ⟨⟨r2.sub, r2.prot, r2.gp, by rw [restE_len, ln]; exact r1.len, fun i t ht => ?_, fun i j t u a hij hi hj ot ou h1 h2 => ?_⟩, ⟨by rw [restE_len, ln], fun i t ht => ?_⟩, fun v x hx rx => ?_⟩
  · by_cases hi : i ∈ vs
    · have q := restE_in ln hi ht
      have sl := r1.slot i t q
      have no := ownOk_get ow hi q
      cases t with
      | un => trivial
      | fz d => obtain ⟨w, f1, f2⟩ := sl; exact ⟨w, f1, f2.mono s⟩
      | ow d => cases no
      | bo d => cases no
    · rw [restE_out hi] at ht
      have q := r2.slot i t ht
      rw [L2.wipe_out hi] at q
      exact q
  · obtain ⟨_, g1, w1⟩ := outO i t hi ot
    obtain ⟨_, g2, w2⟩ := outO j u hj ou
    rw [← w1] at h1
    rw [← w2] at h2
    exact r2.dist i j t u a hij g1 g2 ot ou h1 h2
  · by_cases hi : i ∈ vs
    · have hl : i < (restE e1 eN vs).length := by
        rw [restE_len, ln]
        exact (List.getElem?_eq_some_iff.mp ht).1
      have q := restE_in ln hi (List.getElem?_eq_getElem hl)
      rw [ht] at q
      have q' := Option.some.inj q
      refine ⟨t, by rw [List.getElem?_eq_getElem hl, ← q'], ?_⟩
      cases t with
      | un => rfl
      | fz d => rfl
      | ow d => exact .inl ⟨d, rfl⟩
      | bo d => exact ⟨d, rfl⟩
    · obtain ⟨u, h1, h2⟩ := p.2 i t (by rw [wipeE_out hi]; exact ht)
      exact ⟨u, by rw [restE_out hi]; exact h1, h2⟩
  · cases x with
    | v d => exact rx
    | pl i => cases hx
    | nw d =>
      obtain ⟨a, e, h1, h2, h3, h4⟩ := rx
      refine ⟨a, e, h1, h2, fun i t ht ot hz => ?_, h4⟩
      obtain ⟨_, g1, w1⟩ := outO i t ht ot
      rw [← w1] at hz
      exact h3 i t g1 ot hz
theorem i_lc {raw : Bool} {vs : List Nat} {wi : TI} {g : TG} {tt : TT} {te : TE} {gm : D → En → Option En} {mi : Mo (List D)} {mt : Mo Bool} {me : Mo Vx} (hi : ImI K mg raw W wi mi) (hg : ImCt K mg raw vs g gm) (ht : ImT K mg W0 tt mt) (he : ImE K mg W0 te me) :
    ImE K mg W (tLc wi g tt te vs) (mLc vs gm mi mt me) := by
  intro P G H e σ Q r h
  refine hi P G H e σ _ r (Po.bind h fun ds e1 _ h1 G1 H1 J r1 s1 p1 wk => ?_)
  by_cases ow : ownOk e1 vs = true
  case neg => rw [if_neg ow] at h1; exact h1.elim
  rw [if_pos ow] at h1
  cases hL : lcL vs gm mt me ds [] (wipeE e1 vs) with
  | exc z e2 => rw [hL] at h1; exact h1.elim
  | stuck => rw [hL] at h1; exact h1.elim
  | ok accN eN =>
    rw [hL] at h1
    have h1 : ∀ G' H' v, Rel K mg P G' H' (restE e1 eN vs) σ → Sub G G' → Shp e (restE e1 eN vs) → Rx K mg P G' H' (restE e1 eN vs) σ v (.nw (.list accN)) → Q v H' := h1
    intro Dl hD
    obtain ⟨q1, q2, q3⟩ := r1.notNone hD
    have r1w := r1.wipe vs
    have rD : Rel K mg P G1 (upd H1 Dl (.lst [])) (wipeE e1 vs) (L2.wipe σ vs) ∧ Rx K mg P G1 (upd H1 Dl (.lst [])) (wipeE e1 vs) (L2.wipe σ vs) (.ref Dl) (.nw (.list [])) := by
      refine r1w.new (d := .list []) hD (.lst upd_same .nil)
    refine ⟨fun i m H => m = ds.length - i ∧ i ≤ ds.length ∧ ∃ G e acc, Rel K mg P G H e (L2.wipe σ vs) ∧ Sub G1 G ∧ Shp (wipeE e1 vs) e ∧ wipeE e vs = e ∧ Rx K mg P G H e (L2.wipe σ vs) (.ref Dl) (.nw (.list acc)) ∧ lcL vs gm mt me (ds.drop i) acc e = .ok accN eN,
      ⟨ds.length, by simp, Nat.zero_le _, G1, wipeE e1 vs, [], rD.1, Sub.refl _, Shp.refl _, ?_, rD.2, hL⟩, ?_⟩
    · exact wipeE_idem vs fun _ z => z
    · rintro i m H2 ⟨rfl, hil, G2, e2, acc, r2, s2, p2, w2, x2, l2⟩
      by_cases hlt : i < ds.length
      · have hd : ds.drop i = ds[i] :: ds.drop (i + 1) := List.drop_eq_getElem_cons hlt
        rw [hd] at l2
        refine .inr ⟨wk.go i G2 H2 e2 _ hlt r2 s2, fun H' => ∃ G e acc, Rel K mg P G H' e (L2.wipe σ vs) ∧ Sub G1 G ∧ Shp (wipeE e1 vs) e ∧ wipeE e vs = e ∧ Rx K mg P G H' e (L2.wipe σ vs) (.ref Dl) (.nw (.list acc)) ∧ lcL vs gm mt me (ds.drop (i + 1)) acc e = .ok accN eN, fun H' q => ⟨ds.length - (i + 1), by omega, rfl, hlt, q⟩, fun x H' y => ?_⟩
        -- the item; the list that is made is carried
        obtain ⟨G3, r3, s3, v3, sh3, gs3⟩ := wk.yld i ds[i] G2 H2 e2 _ x H' (List.getElem?_eq_getElem hlt) r2 s2 y
        obtain ⟨a, ea, y1, y2, y3, y4⟩ := x2
        cases ea
        cases y4 with
        | lst y5 y6 =>
          rename_i ws
          have hD3 : H' Dl = some (.lst ws) := sh3 _ _ y5
          have g3 : G3 Dl = none := by rw [gs3 Dl _ y5]; exact y2
          have rP := r3.plus hD3 y3
          have prot : (P.plus G3 Dl (.lst ws)).Prot Dl = some (.lst ws) := upd_same
          have l2' : (match gm ds[i] e2 with
            | none => .stuck
            | some e1 => (match mt e1 with
              | .ok true e2 => (match me e2 with
                | .ok x e3 => (match mVal x e3 with
                  | .ok y e4 => if acc.length < sizeLine then lcL vs gm mt me (ds.drop (i + 1)) (acc ++ [y]) (wipeE e4 vs) else .stuck
                  | _ => .stuck)
                | _ => .stuck)
              | .ok false e2 => lcL vs gm mt me (ds.drop (i + 1)) acc (wipeE e2 vs)
              | _ => .stuck) : Rs (List D)) = .ok accN eN := l2
          cases qg : gm ds[i] e2 with
          | none => rw [qg] at l2'; cases l2'
          | some e3 =>
            rw [qg] at l2'
            dsimp only at l2'
            refine hg (P.plus G3 Dl (.lst ws)) G3 H' e2 e3 _ x ds[i] _ rP v3 qg fun σ4 r4 wσ we => ?_
            rw [wipe_idem vs fun _ z => z] at wσ
            rw [w2] at we
            refine ⟨wσ, ?_⟩
            -- where a turn ends
            have turn : ∀ {G5 H5 : Hp} {e5 : En}, Rel K mg (P.plus G3 Dl (.lst ws)) G5 H5 e5 σ4 → Sub G3 G5 → Shp e3 e5 →
                Rel K mg P G5 H5 (wipeE e5 vs) (L2.wipe σ vs) ∧ Sub G1 G5 ∧ Shp (wipeE e1 vs) (wipeE e5 vs) ∧ wipeE (wipeE e5 vs) vs = wipeE e5 vs ∧ H5 Dl = some (.lst ws) ∧ G5 Dl = none ∧
                  ∀ (i : Nat) (s : Sl), (wipeE e5 vs)[i]? = some s → s.isO = true → (L2.wipe σ vs)[i]? ≠ some (some (V.ref Dl)) := by
              intro G5 H5 e5 r5 s5 p5
              have r6 := r5.wipe vs
              rw [wσ] at r6
              have p6 := p5.wipe vs
              rw [we] at p6
              have g5 : G5 Dl = none := by
                have z := r5.gp Dl _ prot
                have z' : G5 Dl = if Dl = Dl then G3 Dl else P.G0 Dl := z
                rw [if_pos rfl] at z'
                rw [z', g3]
              refine ⟨r6.minus y1, (s2.trans s3).trans s5, p2.trans p6, wipeE_idem vs fun _ z => z, r5.prot Dl _ prot, g5, fun i s hs os hz => ?_⟩
              have sl := r6.slot i s hs
              cases s with
              | un => cases os
              | fz d => cases os
              | ow d =>
                obtain ⟨b, f1, f2, _⟩ := sl
                rw [hz] at f1
                cases f1
                rw [prot] at f2
                cases f2
              | bo d =>
                obtain ⟨b, f1, _, f2, _⟩ := sl
                rw [hz] at f1
                cases f1
                rw [prot] at f2
                cases f2
            refine ht (P.plus G3 Dl (.lst ws)) G3 H' e3 σ4 _ r4 (Po.of (fun b e4 qt G4 H4 b' r4' s4 p4 eb => ?_) (fun z e4 qt => ?_) fun qt => ?_)
            · subst eb
              rw [qt] at l2'
              cases b' with
              | false =>
                rw [if_neg Bool.false_ne_true]
                obtain ⟨t1, t2, t3, t4, t5, t6, t7⟩ := turn r4' s4 p4
                exact ⟨G4, _, acc, t1, t2, t3, t4, ⟨Dl, rfl, y1, t6, t7, .lst t5 (y6.mono (s3.trans s4))⟩, l2'⟩
              | true =>
                rw [if_pos rfl]
                dsimp only at l2'
                refine he (P.plus G3 Dl (.lst ws)) G4 H4 e4 σ4 _ r4' (Po.of (fun xv e5 qe G5 H5 yv r5 s5 p5 x5 => ?_) (fun z e5 qe => ?_) fun qe => ?_)
                · rw [qe] at l2'
                  dsimp only at l2'
                  cases qv : mVal xv e5 with
                  | exc z e6 => exact (mVal_noexc qv).elim
                  | stuck => rw [qv] at l2'; cases l2'
                  | ok yd e6 =>
                    rw [qv] at l2'
                    dsimp only at l2'
                    obtain ⟨G6, r6, s6, p6, v6, _⟩ := r5.val x5 qv
                    by_cases hl : acc.length < sizeLine
                    · rw [if_pos hl] at l2'
                      obtain ⟨t1, t2, t3, t4, t5, t6, t7⟩ := turn r6 ((s4.trans s5).trans s6) ((p4.trans p5).trans p6)
                      refine ⟨ws, t5, by rw [y6.length]; exact hl, G6, _, acc ++ [yd], t1.mut y1 t6 t7, t2, t3, t4, ⟨Dl, rfl, y1, t6, t7, .lst upd_same ((y6.mono (((s3.trans s4).trans s5).trans s6)).append (.cons v6 .nil))⟩, l2'⟩
                    · rw [if_neg hl] at l2'
                      cases l2'
                · rw [qe] at l2'
                  cases l2'
                · rw [qe] at l2'
                  cases l2'
            · rw [qt] at l2'
              cases l2'
            · rw [qt] at l2'
              cases l2'
      · have e : i = ds.length := by omega
        subst e
        rw [List.drop_length] at l2
        refine .inl ⟨wk.stop G2 H2 e2 _ r2 s2, ?_⟩
        cases l2
        obtain ⟨k1, k2, k3⟩ := r1.rest ow r2 s2 p2
        exact h1 G2 H2 _ k1 (s1.trans s2) (p1.trans k2) (k3 _ _ rfl x2)
end
end Fw
set_option Elab.async false
set_option linter.all false
set_option maxRecDepth 100000
set_option maxHeartbeats 1000000
/-! Fw7: operators. -/
namespace Fw
open PySem PySem.Spec PyProof.Rows L2
/-! ### comparisons -/
def flatD : D → Bool
  | .none | .bool _ | .int _ | .str _ => true
  | _ => false
def layD (a b : D) : Bool := a.canLay0 && b.canLay0 && decide (min a.depth b.depth ≤ 64)
def dEq (a b : D) : Option Bool := if (flatD a && flatD b || layD a b) = true then some (PyData.eqv a b) else none
def dNe (a b : D) : Option Bool := (dEq a b).map not
section
variable {X : Cx}
def rEqL (K : PySem.W.Frag) (ng : Bool) : R2 := fun x y H Q => ∃ d e, Dp K H x d ∧ Dp K H y e ∧ layD d e = true ∧ Q (.bl (if ng then !PyData.eqv d e else PyData.eqv d e)) H
theorem layD_get {a b : D} (h : layD a b = true) : a.canLay0 = true ∧ b.canLay0 = true ∧ min a.depth b.depth ≤ 64 := by
  obtain ⟨h1, h2⟩ := Bool.and_eq_true_iff.mp h
  obtain ⟨h3, h4⟩ := Bool.and_eq_true_iff.mp h1
  exact ⟨h3, h4, of_decide_eq_true h2⟩
theorem op_eqL (hu : X.A.units + 64 < cLine) : OpR X (compareOp .Eq) (rEqL X.K false) := by
  intro pins s σ H x y v u Q I rx ry h
  obtain ⟨d, e, hd, he, l, q⟩ := h
  obtain ⟨as, r1⟩ := Dp.reads I d x v hd rx
  obtain ⟨bs, r2⟩ := Dp.reads I e y u he ry
  obtain ⟨l1, l2, l3⟩ := layD_get l
  exact SeqAt.compareEq_reads r1 r2 l1 l2 (by omega) ⟨.bl _, H, I, rfl, q⟩
theorem op_neL (hu : X.A.units + 64 < cLine) : OpR X (compareOp .NotEq) (rEqL X.K true) := by
  intro pins s σ H x y v u Q I rx ry h
  obtain ⟨d, e, hd, he, l, q⟩ := h
  obtain ⟨as, r1⟩ := Dp.reads I d x v hd rx
  obtain ⟨bs, r2⟩ := Dp.reads I e y u he ry
  obtain ⟨l1, l2, l3⟩ := layD_get l
  exact SeqAt.compareNe_reads r1 r2 l1 l2 (by omega) ⟨.bl _, H, I, rfl, q⟩
def rEqX (K : PySem.W.Frag) : R2 := fun x y H Q => rEq x y H Q ∨ rEqL K false x y H Q
def rNeX (K : PySem.W.Frag) : R2 := fun x y H Q => rNe x y H Q ∨ rEqL K true x y H Q
theorem op_eqX (hu : X.A.units + 64 < cLine) : OpR X (compareOp .Eq) (rEqX X.K) := OpR.or op_eq (op_eqL hu)
theorem op_neX (hu : X.A.units + 64 < cLine) : OpR X (compareOp .NotEq) (rNeX X.K) := OpR.or op_ne (op_neL hu)
end
section
variable {K : Kx} {mg : Str → Option Value} {W : WX}
variable {P P' : Pr} {G G' H H' : Hp} {e e' : En} {σ σ' : L2.St} {v : V} {x : Vx} {Dn : Ends}
mutual
theorem Rp.dp : ∀ {d : D} {v : V}, d.canLay0 = true → Rp K mg G v d → Dp K.K G v d
  | .none, _, _, h => by cases h; exact .non
  | .bool _, _, _, h => by cases h; exact .bl _
  | .int _, _, _, h => by cases h; exact .int _
  | .str _, _, _, h => by cases h; exact .str _
  | .list ds, _, c, h => by cases h with | lst a b => exact .lst (SqL.of a) (Rl.dp (by simpa [PyData.canLay0] using c) b)
  | .tuple ds, _, c, h => by cases h with | tup a b => exact .tup a.sq (Rl.dp (by simpa [PyData.canLay0] using c) b)
  | .dict _, _, c, _ => by simp [PyData.canLay0] at c
theorem Rl.dp : ∀ {ds : List D} {vs : List V}, PyData.canLayAll0 ds = true → Rl K mg G vs ds → DpAll K.K G vs ds
  | [], _, _, h => by cases h; exact .nil
  | d :: ds, _, c, h => by
    have c' : d.canLay0 = true ∧ PyData.canLayAll0 ds = true := by simpa [PyData.canLayAll0] using c
    cases h with | cons a b => exact .cons (Rp.dp c'.1 a) (Rl.dp c'.2 b)
end
theorem Ro.dp {d : D} (s : Sub G H) (h : Ro K mg G H v d) (c : d.canLay0 = true) : Dp K.K H v d := Rp.dp c (h.rp s)
theorem flat_ro {d : D} (f : flatD d = true) (h : Ro K mg G H v d) : (d = .none ∧ v = .non) ∨ (∃ b, d = .bool b ∧ v = .bl b) ∨ (∃ i, d = .int i ∧ v = .int i) ∨ ∃ x, d = .str x ∧ v = .str x := by
  cases h with
  | non => exact .inl ⟨rfl, rfl⟩
  | bl b => exact .inr (.inl ⟨b, rfl, rfl⟩)
  | int i => exact .inr (.inr (.inl ⟨i, rfl, rfl⟩))
  | str x => exact .inr (.inr (.inr ⟨x, rfl, rfl⟩))
  | _ => cases f
theorem eq_flat {a b : D} {x y : V} (fa : flatD a = true) (fb : flatD b = true) (ra : Ro K mg G H x a) (rb : Ro K mg G H y b) : (scal x y = true ∧ decide (x = y) = PyData.eqv a b) ∨ layD a b = true := by
  rcases flat_ro fa ra with ⟨rfl, rfl⟩ | ⟨p, rfl, rfl⟩ | ⟨p, rfl, rfl⟩ | ⟨p, rfl, rfl⟩ <;> rcases flat_ro fb rb with ⟨rfl, rfl⟩ | ⟨q, rfl, rfl⟩ | ⟨q, rfl, rfl⟩ | ⟨q, rfl, rfl⟩ <;>
    first
    | (refine .inl ⟨rfl, ?_⟩; simp only [PyData.eqv, dec_int, dec_bl, dec_str]; done)
    | (refine .inl ⟨rfl, ?_⟩; simp [PyData.eqv]; done)
    | (refine .inr ?_; simp [layD, PyData.canLay0, PyData.depth]; done)
theorem b_eq : OpB K mg (rEqX K.K) dEq := by
  intro G H x y a b k Q s ra rb h q
  unfold dEq at h
  split at h
  · rename_i c
    cases h
    rcases Bool.or_eq_true_iff.mp c with c | c
    · obtain ⟨fa, fb⟩ := Bool.and_eq_true_iff.mp c
      rcases eq_flat fa fb ra rb with ⟨z1, z2⟩ | l
      · exact .inl ⟨z1, by rw [z2]; exact q⟩
      · obtain ⟨l1, l2, _⟩ := layD_get l
        exact .inr ⟨a, b, ra.dp s l1, rb.dp s l2, l, q⟩
    · obtain ⟨l1, l2, _⟩ := layD_get c
      exact .inr ⟨a, b, ra.dp s l1, rb.dp s l2, c, q⟩
  · cases h
theorem b_ne : OpB K mg (rNeX K.K) dNe := by
  intro G H x y a b k Q s ra rb h q
  obtain ⟨k', h2, rfl⟩ := Option.map_eq_some_iff.mp (show (dEq a b).map not = some k from h)
  clear h
  have h := h2
  clear h2
  unfold dEq at h
  split at h
  · rename_i c
    cases h
    rcases Bool.or_eq_true_iff.mp c with c | c
    · obtain ⟨fa, fb⟩ := Bool.and_eq_true_iff.mp c
      rcases eq_flat fa fb ra rb with ⟨z1, z2⟩ | l
      · exact .inl ⟨z1, by rw [z2]; exact q⟩
      · obtain ⟨l1, l2, _⟩ := layD_get l
        exact .inr ⟨a, b, ra.dp s l1, rb.dp s l2, l, q⟩
    · obtain ⟨l1, l2, _⟩ := layD_get c
      exact .inr ⟨a, b, ra.dp s l1, rb.dp s l2, c, q⟩
  · cases h
/-- comparisons of ints -/
def dI (p : Int → Int → Bool) : D → D → Option Bool := fun a b => match a, b with
  | .int i, .int j => some (p i j)
  | _, _ => none
theorem b_int {p : Int → Int → Bool} : OpB K mg (rI0 fun i j => .bl (p i j)) (dI p) := by
  intro G H x y a b k Q s ra rb h q
  unfold dI at h
  split at h
  · cases h
    cases ra
    cases rb
    exact ⟨_, _, rfl, rfl, q⟩
  · cases h
abbrev dLt := dI fun i j => decide (i < j)
abbrev dLe := dI fun i j => decide (i ≤ j)
abbrev dGt := dI fun i j => decide (j < i)
abbrev dGe := dI fun i j => decide (j ≤ i)
/-- is None; is True, is False (of a bool) -/
def rIsX : R2 := fun x y H Q => (y = .non ∧ Q (.bl (decide (x = .non))) H) ∨ rIsB x y H Q
def rNotX : R2 := fun x y H Q => (y = .non ∧ Q (.bl (!decide (x = .non))) H) ∨ rNotB x y H Q
theorem op_isX {X : Cx} : OpR X (compareOp .Is) rIsX := OpR.or op_isN op_isBl
theorem op_notX {X : Cx} : OpR X (compareOp .IsNot) rNotX := OpR.or op_notN op_notBl
def isNone : D → Bool
  | .none => true
  | _ => false
def dIs : D → D → Option Bool := fun a b => match a, b with
  | .bool i, .bool j => some (decide (i = j))
  | a, .none => some (isNone a)
  | _, _ => none
theorem none_dec {d : D} (h : Ro K mg G H v d) : decide (v = .non) = isNone d := by
  cases h <;> first | rfl | simp [isNone]
theorem b_is : OpB K mg rIsX dIs := by
  intro G H x y a b k Q s ra rb h q
  unfold dIs at h
  split at h
  · cases h
    cases ra
    cases rb
    exact .inr ⟨_, _, rfl, rfl, q⟩
  · cases h
    cases rb
    exact .inl ⟨rfl, by rw [none_dec ra]; exact q⟩
  · cases h
theorem b_not : OpB K mg rNotX (fun a b => (dIs a b).map not) := by
  intro G H x y a b k Q s ra rb h q
  obtain ⟨k', h2, rfl⟩ := Option.map_eq_some_iff.mp (show (dIs a b).map not = some k from h)
  clear h
  have h := h2
  clear h2
  unfold dIs at h
  split at h
  · cases h
    cases ra
    cases rb
    exact .inr ⟨_, _, rfl, rfl, q⟩
  · cases h
    cases rb
    exact .inl ⟨rfl, by rw [none_dec ra]; exact q⟩
  · cases h
/-! ### in -/
end
section
variable {X : Cx}
/-- x in a list or tuple of data -/
def rInL (K : PySem.W.Frag) (ng : Bool) : R2 := fun x y H Q => ∃ d ds, Dp K H x d ∧ (Dp K H y (.list ds) ∨ Dp K H y (.tuple ds)) ∧ d.canLay0 = true ∧ PyData.canLayAll0 ds = true ∧ min (PyData.depthAll ds) d.depth ≤ 64 ∧
  Q (.bl (if ng then !ds.any fun z => PyData.eqv z d else ds.any fun z => PyData.eqv z d)) H
theorem op_inL (hu : X.A.units + 65 < cLine) : OpR X (compareOp .In) (rInL X.K false) := by
  intro pins s σ H x y v u Q I rx ry h
  obtain ⟨d, ds, hd, he, l1, l2, l3, q⟩ := h
  obtain ⟨as, r1⟩ := Dp.reads I d x v hd rx
  rcases he with he | he
  · obtain ⟨bs, r2⟩ := Dp.reads I (.list ds) y u he ry
    exact SeqAt.in_list_reads r2 r1 l2 l1 (by omega) ⟨.bl _, H, I, rfl, q⟩
  · obtain ⟨bs, r2⟩ := Dp.reads I (.tuple ds) y u he ry
    exact SeqAt.in_tuple_reads r2 r1 l2 l1 (by omega) ⟨.bl _, H, I, rfl, q⟩
theorem op_ninL (hu : X.A.units + 65 < cLine) : OpR X (compareOp .NotIn) (rInL X.K true) := by
  intro pins s σ H x y v u Q I rx ry h
  obtain ⟨d, ds, hd, he, l1, l2, l3, q⟩ := h
  obtain ⟨as, r1⟩ := Dp.reads I d x v hd rx
  rcases he with he | he
  · obtain ⟨bs, r2⟩ := Dp.reads I (.list ds) y u he ry
    exact SeqAt.notIn_list_reads r2 r1 l2 l1 (by omega) ⟨.bl _, H, I, rfl, q⟩
  · obtain ⟨bs, r2⟩ := Dp.reads I (.tuple ds) y u he ry
    exact SeqAt.notIn_tuple_reads r2 r1 l2 l1 (by omega) ⟨.bl _, H, I, rfl, q⟩
/-- text in text -/
def rInS (ng : Bool) : R2 := fun x y H Q => ∃ i j, x = .str i ∧ y = .str j ∧ Q (.bl (if ng then !(!(Builtin.Str.occurrences j i 0 j.length 1).isEmpty) else !(Builtin.Str.occurrences j i 0 j.length 1).isEmpty)) H
theorem op_inS : OpR X (compareOp .In) (rInS false) := op_in_str
theorem op_ninS : OpR X (compareOp .NotIn) (rInS true) := op_notin_str
/-- a key in a dict -/
def rInK (ng : Bool) : R2 := fun x y H Q => ∃ a o, y = .ref a ∧ DGet H a x o ∧ Q (.bl (if ng then !o.isSome else o.isSome)) H
theorem op_inK (hu : X.A.units + 1 < cLine) : OpR X (compareOp .In) (rInK false) := by
  intro pins s σ H x y v u Q I rx ry h
  obtain ⟨a, o, rfl, g, q⟩ := h
  cases ry
  exact d_in hu I g rx fun s' I' => ⟨.bl _, H, I', rfl, q⟩
theorem op_ninK (hu : X.A.units + 1 < cLine) : OpR X (compareOp .NotIn) (rInK true) := by
  intro pins s σ H x y v u Q I rx ry h
  obtain ⟨a, o, rfl, g, q⟩ := h
  cases ry
  exact d_notIn hu I g rx fun s' I' => ⟨.bl _, H, I', rfl, q⟩
def rInX (K : PySem.W.Frag) (ng : Bool) : R2 := fun x y H Q => rIn K ng x y H Q ∨ rInL K ng x y H Q ∨ rInS ng x y H Q ∨ rInK ng x y H Q
theorem op_inX (hu : X.A.units + 65 < cLine) : OpR X (compareOp .In) (rInX X.K false) := OpR.or op_in_seq (OpR.or (op_inL hu) (OpR.or op_inS (op_inK (by omega))))
theorem op_ninX (hu : X.A.units + 65 < cLine) : OpR X (compareOp .NotIn) (rInX X.K true) := OpR.or op_notIn_seq (OpR.or (op_ninL hu) (OpR.or op_ninS (op_ninK (by omega))))
end
/-- a text within a text -/
def strIn (i j : Str) : Bool := !(Builtin.Str.occurrences j i 0 j.length 1).isEmpty
/-- a key of a dict as the layer has it -/
def keyK : D → Option Key
  | .int i => some (.inl i)
  | .str x => some (.inr x)
  | _ => none
def keysK : List D → Option (List Key)
  | [] => some []
  | d :: ds => match keyK d, keysK ds with
    | some k, some ks => some (k :: ks)
    | _, _ => none
def keyT : D → Option (List Key)
  | .tuple ds => keysK ds
  | _ => none
/-- what a dict holds at a key -/
def dLook (ps : List (D × D)) (k : D) : Option D := (ps.find? fun p => PyData.eqv p.1 k).map (·.2)
/-- x in y -/
def dIn (x y : D) : Option Bool := match y with
  | .list ds => if (flatD x && ds.all flatD || x.canLay0 && PyData.canLayAll0 ds && decide (min (PyData.depthAll ds) x.depth ≤ 64)) = true then some (ds.any fun z => PyData.eqv z x) else none
  | .tuple ds => if (flatD x && ds.all flatD || x.canLay0 && PyData.canLayAll0 ds && decide (min (PyData.depthAll ds) x.depth ≤ 64)) = true then some (ds.any fun z => PyData.eqv z x) else none
  | .str j => (match x with
    | .str i => some (strIn i j)
    | _ => none)
  | .dict ((.int 0, .none) :: ps) => if (keyK x).isSome = true then some (dLook ps x).isSome else none
  | _ => none
section
variable {K : Kx} {mg : Str → Option Value} {W : WX}
variable {P P' : Pr} {G G' H H' : Hp} {e e' : En} {σ σ' : L2.St} {v : V} {x : Vx} {Dn : Ends}
theorem keyK_some {d : D} {k : Key} (h : keyK d = some k) : d = kD k := by
  cases d with
  | int i => cases h; rfl
  | str x => cases h; rfl
  | _ => cases h
theorem keysK_some : ∀ {ds : List D} {ks : List Key}, keysK ds = some ks → ds = ks.map kD
  | [], ks, h => by cases h; rfl
  | d :: ds, ks, h => by
    have h' : (match keyK d, keysK ds with
      | some k, some ks => some (k :: ks)
      | _, _ => none) = some ks := h
    cases q1 : keyK d with
    | none => rw [q1] at h'; cases h'
    | some k =>
      cases q2 : keysK ds with
      | none => rw [q1, q2] at h'; cases h'
      | some ks' =>
        rw [q1, q2] at h'
        cases h'
        rw [keyK_some q1, keysK_some q2] <;> rfl
theorem keyT_some {d : D} {k : List Key} (h : keyT d = some k) : d = .tuple (k.map kD) := by
  cases d with
  | tuple ds => rw [keysK_some (show keysK ds = some k from h)]
  | _ => cases h
theorem eqv_kD (a b : Key) : PyData.eqv (kD a) (kD b) = decide (a = b) := by
  cases a <;> cases b
  · rw [key_ll] <;> rfl
  · rw [key_lr] <;> rfl
  · rw [key_rl] <;> rfl
  · rw [key_rr]
    show (_ == _) = _
    rw [Bool.beq_eq_decide_eq]
theorem eqvAll_kD : ∀ a b : List Key, PyData.eqvAll (a.map kD) (b.map kD) = decide (a = b)
  | [], [] => by simp [PyData.eqvAll]
  | [], _ :: _ => by simp [PyData.eqvAll]
  | _ :: _, [] => by simp [PyData.eqvAll]
  | x :: xs, y :: ys => by
    show (PyData.eqv (kD x) (kD y) && PyData.eqvAll (xs.map kD) (ys.map kD)) = _
    rw [eqv_kD, eqvAll_kD xs ys, Bool.eq_iff_iff]
    simp
theorem ro_key {k : Key} (h : Ro K mg G H v (kD k)) : v = kV k := by
  cases k <;> (cases h; rfl)
theorem rp_key {k : Key} (h : Rp K mg G v (kD k)) : v = kV k := by
  cases k <;> (cases h; rfl)
theorem rl_keys : ∀ {ks : List Key} {vs : List V}, Rl K mg G vs (ks.map kD) → vs = ks.map kV
  | [], _, h => by cases h; rfl
  | k :: ks, _, h => by
    cases h with
    | cons a b => rw [rl_keys b, rp_key a] <;> rfl
theorem Rk.look (k : Key) : ∀ {kvs : List (Key × V)} {ps : List (D × D)}, Rk K mg G kvs ps → (valV kvs k = none ∧ dLook ps (kD k) = none) ∨ ∃ v d, valV kvs k = some v ∧ dLook ps (kD k) = some d ∧ Rp K mg G v d
  | _, _, .nil => .inl ⟨rfl, rfl⟩
  | _, _, .cons (k := k') (v := v) (r := r) (d := d) (ps := ps) a b => by
    by_cases hk : k' = k
    · subst hk
      refine .inr ⟨v, d, valV_pos rfl, ?_, a⟩
      show ((List.find? _ ((kD k', d) :: ps)).map (·.2)) = some d
      rw [List.find?_cons_of_pos (by rw [eqv_kD]; simp)] <;> rfl
    · have e1 : valV ((k', v) :: r) k = valV r k := valV_neg hk
      have e2 : dLook ((kD k', d) :: ps) (kD k) = dLook ps (kD k) := by
        show ((List.find? _ ((kD k', d) :: ps)).map (·.2)) = _
        rw [List.find?_cons_of_neg (by rw [eqv_kD]; simpa using hk)] <;> rfl
      rw [e1, e2]
      exact Rk.look k b
theorem flat_rp {d : D} (f : flatD d = true) (h : Rp K mg G v d) : flatV v = true := by
  cases h <;> first | rfl | cases f
theorem eqV_of {d e : D} {x y : V} (fd : flatD d = true) (fe : flatD e = true) (hx : Rp K mg G x d) (hy : Rp K mg G y e) : eqV x y = PyData.eqv d e := by
  cases hx <;> cases hy <;> first | (simp [eqV, PyData.eqv]; done) | (cases fd; done) | (cases fe; done)
theorem inV_of {d : D} {x : V} (fd : flatD d = true) (hx : Rp K mg G x d) : ∀ {vs : List V} {ds : List D}, ds.all flatD = true → Rl K mg G vs ds → vs.all flatV = true ∧ inV x vs = ds.any fun z => PyData.eqv z d
  | [], [], _, .nil => ⟨rfl, rfl⟩
  | v :: vs, e :: ds, f, .cons a b => by
    rw [List.all_cons, Bool.and_eq_true] at f
    obtain ⟨g1, g2⟩ := inV_of fd hx f.2 b
    refine ⟨by rw [List.all_cons, flat_rp f.1 a, g1] <;> rfl, ?_⟩
    have g2' : vs.any (fun y => eqV y x) = ds.any fun z => PyData.eqv z d := g2
    show (v :: vs).any (fun y => eqV y x) = _
    rw [List.any_cons, List.any_cons, eqV_of f.1 fd a hx, g2']
theorem in_seq {ng : Bool} {d : D} {ds : List D} {x y : V} {k : Bool} {Q : VK} (s : Sub G H) (rx : Ro K mg G H x d) (hy : (∃ p vs, y = .ref p ∧ (SqL K.K H p vs ∨ SqT K.K H p vs) ∧ Rl K mg G vs ds) ∧ (Ro K mg G H y (.list ds) ∨ Ro K mg G H y (.tuple ds)))
    (h : (if (flatD d && ds.all flatD || d.canLay0 && PyData.canLayAll0 ds && decide (min (PyData.depthAll ds) d.depth ≤ 64)) = true then some (ds.any fun z => PyData.eqv z d) else none) = some k) (q : Q (.bl (if ng then !k else k)) H) : rInX K.K ng x y H Q := by
  split at h
  · rename_i c
    cases h
    obtain ⟨⟨p, vs, rfl, hp, hl⟩, hy⟩ := hy
    rcases Bool.or_eq_true_iff.mp c with c | c
    · obtain ⟨c1, c2⟩ := Bool.and_eq_true_iff.mp c
      obtain ⟨g1, g2⟩ := inV_of (x := x) c1 (rx.rp s) c2 (hl.mono s)
      refine .inl ⟨p, vs, rfl, hp, flat_rp c1 (rx.rp s), g1, ?_⟩
      rw [g2]
      exact q
    · obtain ⟨c1, c2⟩ := Bool.and_eq_true_iff.mp c
      obtain ⟨c3, c4⟩ := Bool.and_eq_true_iff.mp c1
      refine .inr (.inl ⟨d, ds, rx.dp s c3, ?_, c3, c4, of_decide_eq_true c2, q⟩)
      rcases hy with hy | hy
      · exact .inl (hy.dp s (by simpa [PyData.canLay0] using c4))
      · exact .inr (hy.dp s (by simpa [PyData.canLay0] using c4))
  · cases h
theorem in_x {ng : Bool} {a b : D} {x y : V} {k : Bool} {Q : VK} (s : Sub G H) (ra : Ro K mg G H x a) (rb : Ro K mg G H y b) (h : dIn a b = some k) (q : Q (.bl (if ng then !k else k)) H) : rInX K.K ng x y H Q := by
  cases rb with
  | non => cases h
  | bl _ => cases h
  | int _ => cases h
  | str j =>
    cases ra with
    | str i =>
      have h' : some (strIn i j) = some k := h
      cases h'
      exact .inr (.inr (.inl ⟨i, j, rfl, rfl, q⟩))
    | _ => cases h
  | lst e l => exact in_seq s ra ⟨⟨_, _, rfl, .inl (SqL.of e), l⟩, .inl (.lst e l)⟩ h q
  | tup e l => exact in_seq s ra ⟨⟨_, _, rfl, .inr (s.q e), l⟩, .inr (.tup e l)⟩ h q
  | scr _ => cases h
  | fn _ => cases h
  | @dK p kvs ps e l =>
    have h' : (if (keyK a).isSome = true then some (dLook ps a).isSome else none) = some k := h
    cases qk : keyK a with
    | none => rw [qk] at h'; cases h'
    | some kk =>
      rw [qk] at h'
      cases h'
      have ea := keyK_some qk
      subst ea
      have ev := ro_key ra
      subst ev
      refine .inr (.inr (.inr ⟨p, valV kvs kk, rfl, .inl ⟨kvs, kk, e, rfl, rfl⟩, ?_⟩))
      rcases l.look kk with ⟨z1, z2⟩ | ⟨v, d, z1, z2, _⟩ <;> (rw [z1]; rw [z2] at q; exact q)
theorem b_in : OpB K mg (rInX K.K false) dIn := fun G H x y a b k Q s ra rb h q => in_x s ra rb h q
theorem b_nin : OpB K mg (rInX K.K true) (fun a b => (dIn a b).map not) := fun G H x y a b k Q s ra rb h q => by
  obtain ⟨k', h2, rfl⟩ := Option.map_eq_some_iff.mp (show (dIn a b).map not = some k from h)
  exact in_x s ra rb h2 q
end
end Fw
set_option Elab.async false
set_option linter.all false
set_option maxRecDepth 100000
set_option maxHeartbeats 1000000
/-! Fw8: arithmetic, joins, indices, slices. -/
namespace Fw
open PySem PySem.Spec PyProof.Rows L2
section
variable {X : Cx}
/-! ### + -/
def rAddS : R2 := fun x y H Q => ∃ i j, x = .str i ∧ y = .str j ∧ i.length + j.length ≤ sizeLine ∧ Q (.str (i ++ j)) H
def rAddX (K : PySem.W.Frag) : R2 := fun x y H Q => rI0 (fun i j => .int (i + j)) x y H Q ∨ rAddS x y H Q ∨ rCat x y H Q ∨ rCatE K x y H Q
theorem op_addX : OpR X (binaryOp .Add) (rAddX X.K) := OpR.or op_add (OpR.or op_add_str (OpR.or op_cat op_catE))
/-! ### * -/
def rMulS : R2 := fun x y H Q => ∃ i k, x = .str i ∧ y = .int k ∧ 0 ≤ k ∧ k ≤ 1000 ∧ i.length ≤ 1000 ∧ Q (.str ((List.replicate k.toNat i).foldl (· ++ ·) Str.empty)) H
def rMulX (K : PySem.W.Frag) : R2 := fun x y H Q => rI CMul (fun i j => .int (i * j)) x y H Q ∨ rRep x y H Q ∨ rRepE K x y H Q ∨ rRepS K x y H Q
theorem op_mulX : OpR X (binaryOp .Mult) (rMulX X.K) := OpR.or op_mul (OpR.or op_rep (OpR.or op_repE op_repS))
/-! ### subscripts -/
def rIxKey : R2 := fun x y H Q => ∃ a v, x = .ref a ∧ DGet H a y (some v) ∧ Q v H
end
def dAdd : D → D → Option Vx
  | .int i, .int j => some (.v (.int (i + j)))
  | .str i, .str j => if i.length + j.length ≤ sizeLine then some (.v (.str (i ++ j))) else none
  | .list xs, .list ys => if xs.length + ys.length ≤ sizeLine then some (.nw (.list (xs ++ ys))) else none
  | .tuple xs, .tuple ys => if xs.length + ys.length ≤ sizeLine then some (.v (.tuple (xs ++ ys))) else none
  | _, _ => none
def dSub : D → D → Option Vx
  | .int i, .int j => some (.v (.int (i - j)))
  | _, _ => none
def dMul : D → D → Option Vx
  | .int i, .int j => if (-(2 ^ 64) < i ∧ i < 2 ^ 64) ∨ (-(2 ^ 64) < j ∧ j < 2 ^ 64) then some (.v (.int (i * j))) else none
  | .list xs, .int k => if -(2 ^ 63) ≤ k ∧ k < 2 ^ 63 ∧ xs.length * k.toNat ≤ sizeLine then some (.nw (.list (List.replicate k.toNat xs).flatten)) else none
  | .tuple xs, .int k => if 2 ≤ k ∧ k ≤ 1000 ∧ xs.length ≤ 1000 then some (.v (.tuple (List.replicate k.toNat xs).flatten)) else none
  | _, _ => none
def dDiv : D → D → Option Vx
  | .int i, .int j => if j ≠ 0 ∧ j.natAbs < 1073741824 then some (.v (.int (i.fdiv j))) else none
  | _, _ => none
def dMod : D → D → Option Vx
  | .int i, .int j => if j ≠ 0 then some (.v (.int (i.fmod j))) else none
  | _, _ => none
def dPow : D → D → Option Vx
  | .int i, .int j => if 0 ≤ j ∧ j ≤ 1000000 ∧ i.natAbs < 2 ^ 64 then some (.v (.int (i ^ j.toNat))) else none
  | _, _ => none
def dNeg : D → Option Vx
  | .int i => some (.v (.int (-i)))
  | _ => none
def dIx : D → D → Option Vx
  | .list ds, .int i => (atI ds i).map .v
  | .tuple ds, .int i => (atI ds i).map .v
  | .str z, .int i => if z.length ≤ sizeLine then (atI z.cps.toList i).map fun c => .v (.str ⟨#[c]⟩) else none
  | _, _ => none
def dIxK : D → D → Option Vx
  | .dict ((.int 0, .none) :: ps), k => if (keyK k).isSome = true then (dLook ps k).map .v else none
  | _, _ => none
def cutD (ds : List D) (lo hi : Option Int) : List D := (ds.drop (HT.sIx ds.length 0 lo)).take (HT.sIx ds.length ds.length hi - HT.sIx ds.length 0 lo)
def dSl : D → Option Int → Option Int → Option Vx
  | .list ds, lo, hi => some (.nw (.list (cutD ds lo hi)))
  | .tuple ds, lo, hi => some (.v (.tuple (cutD ds lo hi)))
  | .str z, lo, hi => if z.length ≤ sizeLine then some (.v (.str (cutS z lo hi))) else none
  | _, _, _ => none
section
variable {K : Kx} {mg : Str → Option Value} {W : WX}
variable {P P' : Pr} {G G' H H' : Hp} {e e' : En} {σ σ' : L2.St} {v : V} {x : Vx} {Dn : Ends}
theorem Rl.flat {vs : List V} {ds : List D} (h : Rl K mg G vs ds) : ∀ n, Rl K mg G (List.replicate n vs).flatten (List.replicate n ds).flatten
  | 0 => .nil
  | n + 1 => by
    rw [List.replicate_succ, List.replicate_succ, List.flatten_cons, List.flatten_cons]
    exact h.append (Rl.flat h n)
theorem newL {Q : VK} {ds : List D} {vs : List V} (rl : Rel K mg P G H e σ) (hl : Rl K mg G vs ds) (k : ∀ G' H' v, Rel K mg P G' H' e σ → Sub G G' → Rx K mg P G' H' e σ v (.nw (.list ds)) → Q v H') : ∀ p, H p = none → Q (.ref p) (upd H p (.lst vs)) := fun p hp =>
  let ⟨r2, x2⟩ := rl.new (d := .list ds) hp (.lst upd_same hl)
  k _ _ _ r2 (Sub.refl _) x2
theorem newTp {Q : VK} {ds : List D} {vs : List V} (rl : Rel K mg P G H e σ) (hl : Rl K mg G vs ds) (k : ∀ G' H' v, Rel K mg P G' H' e σ → Sub G G' → Rx K mg P G' H' e σ v (.v (.tuple ds)) → Q v H') : NewT H Q vs := fun p ob hob hp =>
  let ⟨r2, s2, x2⟩ := rl.newT hob hp hl
  k _ _ _ r2 s2 x2
theorem Rl.nil_iff {vs : List V} {ds : List D} (h : Rl K mg G vs ds) : vs = [] ↔ ds = [] := by
  cases h <;> simp
theorem o_add : OpI K mg (rAddX K.K) dAdd := by
  intro P G H e σ x y a b z Q rl ra rb h k
  unfold dAdd at h
  split at h
  · cases h; cases ra; cases rb
    exact .inl ⟨_, _, rfl, rfl, k G H _ rl (Sub.refl _) (.int _)⟩
  · split at h
    · rename_i c
      cases h; cases ra; cases rb
      exact .inr (.inl ⟨_, _, rfl, rfl, c, k G H _ rl (Sub.refl _) (.str _)⟩)
    · cases h
  · split at h
    · rename_i c
      cases h
      cases ra with
      | lst e1 l1 => cases rb with
        | lst e2 l2 => exact .inr (.inr (.inl ⟨_, _, _, _, rfl, rfl, e1, e2, by rw [l1.length, l2.length]; exact c, newL rl (l1.append l2) k⟩))
    · cases h
  · split at h
    · rename_i c
      cases h
      cases ra with
      | tup e1 l1 => cases rb with
        | tup e2 l2 =>
          refine .inr (.inr (.inr ⟨_, _, _, _, rfl, rfl, rl.sub.q e1, rl.sub.q e2, by rw [l1.length, l2.length]; exact c, fun z => ?_, fun z1 z2 => ?_, fun _ _ => newTp rl (l1.append l2) k⟩))
          · have z' := l1.nil_iff.mp z
            subst z'
            exact k G H _ rl (Sub.refl _) (.tup e2 l2)
          · have z' := l2.nil_iff.mp z2
            subst z'
            rw [List.append_nil] at k
            exact k G H _ rl (Sub.refl _) (.tup e1 l1)
    · cases h
  · cases h
theorem o_sub : OpI K mg (rI0 fun i j => .int (i - j)) dSub := by
  intro P G H e σ x y a b z Q rl ra rb h k
  unfold dSub at h
  split at h
  · cases h; cases ra; cases rb
    exact ⟨_, _, rfl, rfl, k G H _ rl (Sub.refl _) (.int _)⟩
  · cases h
theorem o_mul : OpI K mg (rMulX K.K) dMul := by
  intro P G H e σ x y a b z Q rl ra rb h k
  unfold dMul at h
  split at h
  · split at h
    · rename_i c
      cases h; cases ra; cases rb
      exact .inl ⟨_, _, rfl, rfl, c, k G H _ rl (Sub.refl _) (.int _)⟩
    · cases h
  · split at h
    · rename_i c
      cases h
      cases ra with
      | lst e1 l1 =>
        cases rb
        exact .inr (.inl ⟨_, _, _, rfl, rfl, e1, c.1, c.2.1, by rw [l1.length]; exact c.2.2, newL rl (l1.flat _) k⟩)
    · cases h
  · split at h
    · rename_i c
      cases h
      cases ra with
      | tup e1 l1 =>
        cases rb
        rename_i _ _ xs _ _ _
        by_cases hx : xs = []
        · subst hx
          cases l1
          refine .inr (.inr (.inr ⟨_, _, rfl, rfl, rl.sub.q e1, c.1, c.2.1, k G H _ rl (Sub.refl _) ?_⟩))
          rw [show ∀ m : Nat, (List.replicate m ([] : List D)).flatten = [] from fun m => by simp]
          exact .tup e1 .nil
        · exact .inr (.inr (.inl ⟨_, _, _, rfl, rfl, rl.sub.q e1, fun z => hx (l1.nil_iff.mp z), c.1, c.2.1, by rw [l1.length]; exact c.2.2, newTp rl (l1.flat _) k⟩))
    · cases h
  · cases h
theorem o_int {C : Int → Int → Prop} [∀ i j, Decidable (C i j)] {g : Int → Int → Int} {f : D → D → Option Vx} (hf : ∀ a b z, f a b = some z → ∃ i j, a = .int i ∧ b = .int j ∧ C i j ∧ z = .v (.int (g i j))) : OpI K mg (rI C fun i j => .int (g i j)) f := by
  intro P G H e σ x y a b z Q rl ra rb h k
  obtain ⟨i, j, rfl, rfl, c, rfl⟩ := hf a b z h
  cases ra; cases rb
  exact ⟨i, j, rfl, rfl, c, k G H _ rl (Sub.refl _) (.int _)⟩
theorem o_div : OpI K mg (rI CDivN fun i j => .int (i.fdiv j)) dDiv := by
  intro P G H e σ x y a b z Q rl ra rb h k
  unfold dDiv at h
  split at h
  · split at h
    · rename_i c
      cases h; cases ra; cases rb
      exact ⟨_, _, rfl, rfl, c, k G H _ rl (Sub.refl _) (.int _)⟩
    · cases h
  · cases h
theorem o_mod : OpI K mg (rI (fun _ j => j ≠ 0) fun i j => .int (i.fmod j)) dMod := by
  intro P G H e σ x y a b z Q rl ra rb h k
  unfold dMod at h
  split at h
  · split at h
    · rename_i c
      cases h; cases ra; cases rb
      exact ⟨_, _, rfl, rfl, c, k G H _ rl (Sub.refl _) (.int _)⟩
    · cases h
  · cases h
theorem o_pow : OpI K mg (rI CPow fun i j => .int (i ^ j.toNat)) dPow := by
  intro P G H e σ x y a b z Q rl ra rb h k
  unfold dPow at h
  split at h
  · split at h
    · rename_i c
      cases h; cases ra; cases rb
      exact ⟨_, _, rfl, rfl, c, k G H _ rl (Sub.refl _) (.int _)⟩
    · cases h
  · cases h
theorem u_neg : UnI K mg (rU fun i => .int (-i)) dNeg := by
  intro P G H e σ x a z Q rl ra h k
  cases a with
  | int i =>
    cases h; cases ra
    exact ⟨i, rfl, k G H _ rl (Sub.refl _) (.int _)⟩
  | _ => cases h
theorem Rl.atI {vs : List V} {ds : List D} {i : Int} {d : D} (h : Rl K mg G vs ds) (e : atI ds i = some d) : ∃ v, atI vs i = some v ∧ Rp K mg G v d := by
  unfold L2.atI at e ⊢
  rw [h.length]
  cases q : ixN ds.length i with
  | none => rw [q] at e; cases e
  | some j =>
    rw [q] at e
    exact h.get e
theorem o_ix : OpI K mg (rIx K.K) dIx := by
  intro P G H e σ x y a b z Q rl ra rb h k
  unfold dIx at h
  split at h
  · obtain ⟨d, hd, rfl⟩ := Option.map_eq_some_iff.mp h
    cases rb
    cases ra with
    | lst e1 l1 =>
      obtain ⟨v, hv, rv⟩ := l1.atI hd
      exact .inl ⟨_, _, _, v, rfl, rfl, SqL.of e1, hv, k G H v rl (Sub.refl _) rv⟩
  · obtain ⟨d, hd, rfl⟩ := Option.map_eq_some_iff.mp h
    cases rb
    cases ra with
    | tup e1 l1 =>
      obtain ⟨v, hv, rv⟩ := l1.atI hd
      exact .inr (.inl ⟨_, _, _, v, rfl, rfl, rl.sub.q e1, hv, k G H v rl (Sub.refl _) rv⟩)
  · split at h
    · rename_i c
      obtain ⟨d, hd, rfl⟩ := Option.map_eq_some_iff.mp h
      cases ra; cases rb
      exact .inr (.inr ⟨_, _, d, rfl, rfl, c, hd, k G H _ rl (Sub.refl _) (.str _)⟩)
    · cases h
  · cases h
/-! ### slices -/
theorem Rl.cut {vs : List V} {ds : List D} (h : Rl K mg G vs ds) (lo hi : Option Int) : Rl K mg G (cutV vs lo hi) (cutD ds lo hi) := by
  unfold cutV cutD
  rw [h.length]
  exact (h.drop _).take _
def rSlX (K : PySem.W.Frag) : V → Option Int → Option Int → Hp → VK → Prop := fun x lo hi H Q => rSlL K x lo hi H Q ∨ rSlE K x lo hi H Q ∨ rSlS x lo hi H Q
theorem SlR.or {X : Cx} {r r' : V → Option Int → Option Int → Hp → VK → Prop} (h : SlR X r) (h' : SlR X r') : SlR X (fun x lo hi H Q => r x lo hi H Q ∨ r' x lo hi H Q) := by
  intro pins s σ H x v vl vu lo hi sl Q I rx hs pl pu q
  rcases q with q | q
  · exact h pins s σ H x v vl vu lo hi sl Q I rx hs pl pu q
  · exact h' pins s σ H x v vl vu lo hi sl Q I rx hs pl pu q
theorem sl_x {X : Cx} : SlR X (rSlX X.K) := sl_list.or (sl_tupE.or sl_str)
def SlI (K : Kx) (mg : Str → Option Value) (r : V → Option Int → Option Int → Hp → VK → Prop) (f : D → Option Int → Option Int → Option Vx) : Prop := ∀ (P : Pr) (G H : Hp) (e : En) (σ : L2.St) (x : V) (lo hi : Option Int) (dx : D) (z : Vx) (Q : VK), Rel K mg P G H e σ → Ro K mg G H x dx → f dx lo hi = some z →
  (∀ G' H' v, Rel K mg P G' H' e σ → Sub G G' → Rx K mg P G' H' e σ v z → Q v H') → r x lo hi H Q
theorem cutD_whole {ds : List D} {lo hi : Option Int} (h : HT.sIx ds.length 0 lo = 0 ∧ HT.sIx ds.length ds.length hi = ds.length) : cutD ds lo hi = ds := by
  unfold cutD
  rw [h.1, h.2]
  simp
theorem o_sl : SlI K mg (rSlX K.K) dSl := by
  intro P G H e σ x lo hi a z Q rl ra h k
  unfold dSl at h
  split at h
  · cases h
    cases ra with
    | lst e1 l1 => exact .inl ⟨_, _, rfl, SqL.of e1, newL rl (l1.cut _ _) k⟩
  · cases h
    cases ra with
    | tup e1 l1 =>
      refine .inr (.inl ⟨_, _, rfl, rl.sub.q e1, fun c => ?_, fun _ => newTp rl (l1.cut _ _) k⟩)
      rw [l1.length] at c
      rw [cutD_whole c] at k
      exact k G H _ rl (Sub.refl _) (.tup e1 l1)
  · split at h
    · rename_i c
      cases h; cases ra
      exact .inr (.inr ⟨_, rfl, c, k G H _ rl (Sub.refl _) (.str _)⟩)
    · cases h
  · cases h
/-- an end of a slice -/
def ImO (K : Kx) (mg : Str → Option Value) (W : WX) (to : TO) (m : Mo (Option Int)) : Prop := ∀ (P : Pr) (G H : Hp) (e : En) (σ : L2.St) (Q : Option Int → Hp → Prop), Rel K mg P G H e σ →
  Po K mg P G σ W e (fun _ _ _ _ v x => v = x) Q (m e) → to σ H Q
def mNoPart : Mo (Option Int) := mRet none
def mPart (m : Mo Vx) : Mo (Option Int) := mBind m fun x e => match x.d e with
  | some (.int i) => .ok (some i) e
  | _ => .stuck
theorem io_none : ImO K mg W tNoPart mNoPart := fun P G H e σ Q r h => h G H none r (Sub.refl _) (Shp.refl _) rfl
theorem io_some {t : TE} {m : Mo Vx} (hm : ImE K mg W t m) : ImO K mg W (tPart t) (mPart m) := by
  intro P G H e σ Q rl h
  refine hm P G H e σ _ rl (Po.bind h fun x e1 _ h1 G1 H1 v1 r1 s1 p1 x1 => ?_)
  cases q : x.d e1 with
  | none => rw [q] at h1; exact h1.elim
  | some a =>
    rw [q] at h1
    have ro := r1.read x1 q
    cases a with
    | int i =>
      cases ro
      exact ⟨i, rfl, h1 G1 H1 _ r1 s1 p1 rfl⟩
    | _ => exact h1.elim
def mSl1 (f : D → Option Int → Option Int → Option Vx) (x : Vx) (l u : Option Int) : Mo Vx := fun e => match x.d e with
  | some a => (match f a l u with
    | some z => .ok z e
    | none => .stuck)
  | none => .stuck
def mSl (f : D → Option Int → Option Int → Option Vx) (m : Mo Vx) (lo hi : Mo (Option Int)) : Mo Vx := mBind m fun x => mBind lo fun l => mBind hi fun u => mSl1 f x l u
theorem i_sl {te : TE} {tl th : TO} {m : Mo Vx} {ml mh : Mo (Option Int)} {r : V → Option Int → Option Int → Hp → VK → Prop} {f : D → Option Int → Option Int → Option Vx} (ho : SlI K mg r f) (he : ImE K mg W te m) (hl : ImO K mg W tl ml) (hh : ImO K mg W th mh) : ImE K mg W (tSl r te tl th) (mSl f m ml mh) := by
  intro P G H e σ Q rl h
  refine he P G H e σ _ rl (Po.bind h fun x e1 _ h1 G1 H1 v1 r1 s1 p1 x1 => ?_)
  have h1 := h1.later s1 p1
  obtain ⟨P1, le, rc, nb, back⟩ := x1.carry r1
  refine hl P1 G1 H1 e1 σ _ rc (Po.of (fun l e2 q G2 H2 v2 r2 s2 p2 x2 => ?_) (fun z e2 q G2 H2 cls d r2 s2 p2 xc => ?_) fun q => ?_)
  · subst x2
    rw [mBind_ok q] at h1
    obtain ⟨r3, x3⟩ := back G2 H2 e2 s2 p2 r2
    have h1 := h1.later s2 p2
    obtain ⟨P2, le2, rc2, nb2, back2⟩ := x3.carry r3
    refine hh P2 G2 H2 e2 σ _ rc2 (Po.of (fun u e4 q G4 H4 v4 r4 s4 p4 x4 => ?_) (fun z e4 q G4 H4 cls d r4 s4 p4 xc => ?_) fun q => ?_)
    · subst x4
      rw [mBind_ok q] at h1
      obtain ⟨r5, x5⟩ := back2 G4 H4 e4 s4 p4 r4
      unfold mSl1 at h1
      cases q : x.d e4 with
      | none => rw [q] at h1; exact h1.elim
      | some a =>
        rw [q] at h1
        dsimp only at h1
        cases qf : f a v2 v4 with
        | none => rw [qf] at h1; exact h1.elim
        | some z =>
          rw [qf] at h1
          exact ho P G4 H4 e4 σ v1 v2 v4 a z Q r5 (r5.read x5 q) qf fun G' H' v r6 s6 x6 => h1 G' H' v r6 (s4.trans s6) p4 x6
    · rw [mBind_exc q] at h1
      obtain ⟨r5, _⟩ := back2 G4 H4 e4 s4 p4 r4
      exact h1 G4 H4 cls d r5 s4 p4 xc
    · rw [mBind_stuck q] at h1
      exact h1
  · rw [mBind_exc q] at h1
    obtain ⟨r3, _⟩ := back G2 H2 e2 s2 p2 r2
    exact h1 G2 H2 cls d r3 s2 p2 xc
  · rw [mBind_stuck q] at h1
    exact h1
end
end Fw
set_option Elab.async false
set_option linter.all false
set_option maxRecDepth 100000
set_option maxHeartbeats 1000000
/-! Fw9: sorted, calls of built-ins. -/
namespace Fw
open PySem PySem.Spec PyProof.Rows L2
open PySem.W (AllAlike Sortable dataLe alike)
section
variable {X : Cx}
/-- the items of y are collected -/
def Col (X : Cx) (y : Value) (s : Shared) (vs : List V) : Prop := ∀ (E : Value → Shared → Prop) (R : List Value → Shared → Prop),
  (∀ (acc : List Value) (h' : Heap) (tk : Nat), (∀ b o, s.heap.get? b = some o → h'.get? b = some o) → Vals vs acc → R acc { s with heap := h', toks := tk }) → wpAny (model X.prog X.w) X.A.in1 (collect y) R E s
theorem vals_each {pins : List (Addr × Obj)} {σ : L2.St} {H : Hp} {s : Shared} (I : Inv X pins σ H s) : ∀ {vs : List V} {ds : List D} {acc : List Value}, Paired (Dp X.K H) vs ds → Vals vs acc →
    PySem.W.EachIs (fun v (b : V × D) => RelV b.1 v ∧ ∃ as, Reads s.heap v b.2 as) acc (vs.zip ds)
  | _, _, _, .nil, .nil => .nil
  | _, _, _, .cons a b, .cons c d => .cons ⟨c, Dp.reads I _ _ _ a c⟩ (vals_each I b d)
theorem each_vals {R : Value → V × D → Prop} (h : ∀ v b, R v b → RelV b.1 v) : ∀ {out : List Value} {bs : List (V × D)}, PySem.W.EachIs R out bs → Vals (bs.map (·.1)) out
  | _, _, .nil => .nil
  | _, _, .cons a b => .cons (h _ _ a) (each_vals h b)
theorem zip_snd : ∀ {vs : List V} {ds : List D}, vs.length = ds.length → (vs.zip ds).map Prod.snd = ds
  | [], [], _ => rfl
  | _ :: vs, _ :: ds, h => by
    rw [List.zip_cons_cons, List.map_cons, zip_snd (by simpa using h)]
theorem sort_gen {pins : List (Addr × Obj)} {σ : L2.St} {H : Hp} {s : Shared} {vs : List V} {ds : List D} {y : Value} {Q : VK} (I : Inv X pins σ H s) (hdp : Paired (Dp X.K H) vs ds) (hal : AllAlike ds) (hk : Sortable ds) (hL : ds.length ≤ sizeLine)
    (hu : ∀ d, d ∈ ds → X.A.units + 2 + d.depth < cLine) (hcol : Col X y s vs) (q : ∀ p, H p = none → Q (.ref p) (upd H p (.lst (((vs.zip ds).mergeSort (dataLe false Prod.snd)).map (·.1))))) :
    wpAny (model X.prog X.w) X.A (call (.builtin "sorted") [y]) (EP X pins σ Q) X.xe s := by
  have hlen := hdp.length
  have hz := zip_snd hlen
  refine Calls.call_function_entry PyProof.Rows.kind_sorted PyProof.Rows.plain_sorted PyProof.Rows.entry_sorted (PyProof.Rows.args_sorted1 _) ?_
  unfold Builtin.«sorted»
  refine wpAny_bind (m := checkCount "sorted" 1 1 _) (wpAny_pure ?_)
  refine wpAny_bind (hcol _ _ fun acc h' tk hkp hv => ?_)
  have I1 : Inv X pins σ H { s with heap := h', toks := tk } := I.kept hkp
  have hal2 : acc.length = ds.length := by rw [← hlen, hv.length]
  refine wpAny_bind (wpAny_newList ?_ (by rw [hal2]; exact hL))
  have hoL : (h'.push (seqObj "list" acc.toArray 0)).get? h'.objs.size = some (seqObj "list" acc.toArray 0) := Heap.get?_push_size _ rfl
  show wpAny _ _ _ _ _ { s with heap := h'.push (seqObj "list" acc.toArray 0), toks := tk }
  have e0 := vals_each I1 hdp hv
  have hb : ∀ b o, h'.get? b = some o → (PySem.W.sortingHeap (h'.push (seqObj "list" acc.toArray 0)) h'.objs.size acc).get? b = some o := fun b o e =>
    PySem.W.sortingHeap_old (Nat.ne_of_lt (Heap.lt_size e)) (Heap.get?_push_of_some _ e)
  have e1 : PySem.W.EachIs (fun v (b : V × D) => RelV b.1 v ∧ ∃ as, Reads (PySem.W.sortingHeap (h'.push (seqObj "list" acc.toArray 0)) h'.objs.size acc) v b.2 as) acc (vs.zip ds) :=
    e0.mono fun v b ⟨r1, as, r2⟩ => ⟨r1, as, PyProof.Rows.Reads.keeps hb r2⟩
  have e2 : PySem.W.EachIs (fun v (b : V × D) => ∃ as, Reads (PySem.W.sortingHeap (h'.push (seqObj "list" acc.toArray 0)) h'.objs.size acc) v b.2 as) acc (vs.zip ds) := e1.mono fun v b r => r.2
  have hal' : AllAlike ((vs.zip ds).map Prod.snd) := by rw [hz]; exact hal
  refine wpAny_bind (wpAny_holding (wpAny_call_entry PyProof.Rows.slot_list_sort ⟨_, hoL, rfl⟩ PyProof.Rows.entry_list_sort
    (PySem.W.list_sort_vals (κ := PySem.W.dataKind (PySem.W.sortingHeap (h'.push (seqObj "list" acc.toArray 0)) h'.objs.size acc) ((vs.zip ds).map Prod.snd)) hoL
      (PySem.W.SortsAt.data (s := { s with heap := PySem.W.sortingHeap (h'.push (seqObj "list" acc.toArray 0)) h'.objs.size acc, toks := tk }) (PySem.W.each_map (R := fun v d => ∃ as, Reads (PySem.W.sortingHeap (h'.push (seqObj "list" acc.toArray 0)) h'.objs.size acc) v d as) Prod.snd e2) hal' (by rw [hz]; exact hk) (by rw [hz]; exact hu)) (by rw [hal2]; exact hL) ⟨_, rfl, ?_⟩)
    (PyProof.Rows.args_list_sort _)))
  have e3 := PySem.W.sortVals_data (h' := PySem.W.sortingHeap (h'.push (seqObj "list" acc.toArray 0)) h'.objs.size acc) (enc := Prod.snd) false e1 e2 hal'
  have hout := each_vals (fun v b r => r.1) e3
  obtain ⟨e', he'⟩ := PyProof.Rows.sortedHeap_at (vs := acc) (out := (PySem.W.sortVals (PySem.W.dataKind (PySem.W.sortingHeap (h'.push (seqObj "list" acc.toArray 0)) h'.objs.size acc) ((vs.zip ds).map Prod.snd)) false acc acc).toArray) hoL
  have hlen2 : (((vs.zip ds).mergeSort (dataLe false Prod.snd)).map (·.1)).length ≤ sizeLine := by
    rw [List.length_map, List.length_mergeSort, List.length_zip, hlen, Nat.min_self]
    exact hL
  refine wpAny_pure ⟨_, rfl, .ref h'.objs.size, upd H h'.objs.size (.lst (((vs.zip ds).mergeSort (dataLe false Prod.snd)).map (·.1))), I1.laid (t' := tk) (fun b u e => ?_) (Nat.le_refl _)
    (show ObjOk X.prog X.w _ _ _ (.lst _) from ⟨hlen2, _, e', hout, he'⟩), rfl, q _ (I1.hok.fresh (Nat.le_refl _))⟩
  have hb : b < h'.objs.size := Heap.lt_size e
  rw [PyProof.Rows.sortedHeap_old (Nat.ne_of_lt hb) (by rw [size_push']; exact Nat.lt_succ_of_lt hb)]
  exact Heap.get?_push_of_some _ e

theorem col_seq {pins : List (Addr × Obj)} {σ : L2.St} {H : Hp} {s : Shared} {a : Addr} {vs : List V} (I : Inv X pins σ H s) (h : SqL X.K H a vs ∨ SqT X.K H a vs) : Col X (.ref a) s vs := by
  intro E R k
  rcases h with h | h
  · obtain ⟨its, r, hl, hz⟩ := I.list h
    obtain ⟨o, n, ho, hc, _, hd⟩ := id hl
    refine PySem.wpAny_collect_seq a (.inl rfl) ho hc hd (fun h' hk => k _ h' s.toks hk ?_) (by rw [List.size_toArray, ← r.length]; exact hz)
    simpa using r
  · obtain ⟨its, r, hl, hz⟩ := I.tuple h
    obtain ⟨o, ho, hc, n, hd⟩ := id hl
    refine PySem.wpAny_collect_seq a (.inr rfl) ho hc hd (fun h' hk => k _ h' s.toks hk ?_) (by rw [List.size_toArray, ← r.length]; exact hz)
    simpa using r
theorem col_dict (hcalm : X.calm = true) {pins : List (Addr × Obj)} {σ : L2.St} {H : Hp} {s : Shared} {a : Addr} {kvs : List (Key × V)} (I : Inv X pins σ H s) (h : Rd H a (.dK kvs)) : Col X (.ref a) s (kvs.map fun kv => kV kv.1) := by
  intro E R k
  obtain ⟨z, lo, vs, rel, dd⟩ := dk_rd I.hok h
  obtain ⟨ep, hat⟩ := dd.dictAt
  have ek : (kvs.map fun kv => kV kv.1) = vs.map fun p => kV p.1 := by
    have e := congrArg (List.map kV) rel.keys
    rw [List.map_map, List.map_map] at e
    exact e
  refine PySem.W.kdu_collect (A := X.A.in1) (PySem.W.kdl_dict (knd := mixKind X.prog X.w) (kvs := vs) (ep := ep) lo) (I.ok.hd hcalm) hat (by rw [← rel.length]; exact z) fun h' tk acc hk hacc => k acc.toList h' tk hk ?_
  rw [ek]
  exact keys_at (by rw [Array.length_toList]; exact hacc.1) fun j v e => hacc.2 j v (by rw [← Array.getElem?_toList]; exact e)
/-- what can be sorted: a list, a tuple, a dict's keys -/
def rSortX (K : PySem.W.Frag) : List V → Hp → VK → Prop := fun xs H Q => ∃ a vs ds, xs = [V.ref a] ∧ (SqL K H a vs ∨ SqT K H a vs ∨ ∃ kvs, Rd H a (.dK kvs) ∧ vs = kvs.map fun kv => kV kv.1) ∧
  Paired (Dp K H) vs ds ∧ AllAlike ds ∧ Sortable ds ∧ ds.length ≤ sizeLine ∧ (∀ d, d ∈ ds → d.depth ≤ 64) ∧ ∀ p, H p = none → Q (.ref p) (upd H p (.lst (((vs.zip ds).mergeSort (dataLe false Prod.snd)).map (·.1))))
theorem cr_sortedX (hc : X.calm = true) (hu : X.A.units + 66 < cLine) : CallR X (.builtin "sorted") (rSortX X.K) := by
  intro pins s σ H xs us Q I r h
  obtain ⟨a, vs, ds, rfl, hs, hd, hal, hk, hL, h64, q⟩ := h
  rw [Vals.ref1 r]
  refine sort_gen I hd hal hk hL (fun d hd => by have := h64 d hd; omega) ?_ q
  rcases hs with hs | hs | ⟨kvs, hs, rfl⟩
  · exact col_seq I (.inl hs)
  · exact col_seq I (.inr hs)
  · exact col_dict hc I hs
/-! len, list, tuple -/
def rLenX (K : PySem.W.Frag) : List V → Hp → VK → Prop := fun xs H Q => (∃ x n, xs = [x] ∧ LenV K x H n ∧ Q (.int n) H) ∨ ∃ a kvs, xs = [.ref a] ∧ Rd H a (.dK kvs) ∧ Q (.int kvs.length) H
theorem call_lenX : CallR X (.builtin "len") (rLenX X.K) := CallR.or call_len (by
  intro pins s σ H xs us Q I r h
  obtain ⟨a, kvs, rfl, hd, q⟩ := h
  rw [Vals.ref1 r]
  exact d_len I hd fun t s' I' => ⟨.int kvs.length, H, I', ⟨t, rfl⟩, q⟩)
def rListX (K : PySem.W.Frag) : List V → Hp → VK → Prop := fun xs H Q => (∃ p ys, xs = [.ref p] ∧ (SqL K H p ys ∨ SqT K H p ys) ∧ ∀ l, H l = none → Q (.ref l) (upd H l (.lst ys))) ∨
  ∃ (a : Addr) (kvs : List (Key × V)), xs = [.ref a] ∧ Rd H a (.dK kvs) ∧ ∀ p, H p = none → Q (.ref p) (upd H p (.lst (kvs.map fun kv => kV kv.1)))
theorem call_listX (hc : X.calm = true) : CallR X (.type "list") (rListX X.K) := CallR.or call_list_of (call_listD hc)

def rStrX : List V → Hp → VK → Prop := fun xs H Q => (∃ i, xs = [.int i] ∧ i.natAbs.log2 < 1920 ∧ Q (.str (toString i)) H) ∨ ∃ a, xs = [.str a] ∧ Q (.str a) H
theorem call_strX : CallR X (.type "str") rStrX := CallR.or call_str_int SkE.call_str_str
def rIntX : List V → Hp → VK → Prop := fun xs H Q => (∃ i, xs = [.int i] ∧ Q (.int i) H) ∨ ∃ k, xs = [.bl k] ∧ Q (.int (if k then 1 else 0)) H
theorem call_intX : CallR X (.type "int") rIntX := call_int1
def rAbsX : List V → Hp → VK → Prop := fun xs H Q => ∃ i, xs = [.int i] ∧ Q (.int (if i < 0 then -i else i)) H
theorem call_absX : CallR X (.builtin "abs") rAbsX := call_abs
def rMaxX (K : PySem.W.Frag) : List V → Hp → VK → Prop := fun xs H Q => (∃ i j, xs = [.int i, .int j] ∧ Q (.int (if j > i then j else i)) H) ∨ rMax K xs H Q
theorem call_maxX (hc : X.calm = true) : CallR X (.builtin "max") (rMaxX X.K) := CallR.or (call_max2 hc) (cr_max hc)
def rMinX (K : PySem.W.Frag) : List V → Hp → VK → Prop := fun xs H Q => (∃ i j, xs = [.int i, .int j] ∧ Q (.int (if j < i then j else i)) H) ∨ rMin K xs H Q
theorem call_minX (hc : X.calm = true) : CallR X (.builtin "min") (rMinX X.K) := CallR.or (call_min2 hc) (cr_min hc)
end
/-! ### the same on data -/
def intsD : List D → Option (List Int)
  | [] => some []
  | .int i :: ds => (intsD ds).map (i :: ·)
  | _ => none
def boolsD : List D → Option (List Bool)
  | [] => some []
  | .bool i :: ds => (boolsD ds).map (i :: ·)
  | _ => none
def dLen : List D → Option Vx
  | [.list ds] => some (.v (.int ds.length))
  | [.tuple ds] => some (.v (.int ds.length))
  | [.str z] => if z.length ≤ sizeLine then some (.v (.int z.length)) else none
  | [.dict ((.int 0, .none) :: ps)] => some (.v (.int ps.length))
  | _ => none
def dList : List D → Option Vx
  | [.list ds] => some (.nw (.list ds))
  | [.tuple ds] => some (.nw (.list ds))
  | [.dict ((.int 0, .none) :: ps)] => some (.nw (.list (ps.map (·.1))))
  | [.dict [(.int 3, .list ns)]] => some (.nw (.list ns))
  | _ => none
def dTup : List D → Option Vx
  | [.list ds] => some (.v (.tuple ds))
  | [.tuple ds] => some (.v (.tuple ds))
  | _ => none
def dStr : List D → Option Vx
  | [.int i] => if i.natAbs.log2 < 1920 then some (.v (.str (toString i))) else none
  | [.str x] => some (.v (.str x))
  | _ => none
def dInt : List D → Option Vx
  | [.int i] => some (.v (.int i))
  | [.bool k] => some (.v (.int (if k then 1 else 0)))
  | _ => none
def dAbs : List D → Option Vx
  | [.int i] => some (.v (.int (if i < 0 then -i else i)))
  | _ => none
def dAll : List D → Option Vx
  | [.list ds] => (boolsD ds).map fun bs => .v (.bool (bs.all id))
  | _ => none
def dAny : List D → Option Vx
  | [.list ds] => (boolsD ds).map fun bs => .v (.bool (bs.any id))
  | _ => none
def dSum : List D → Option Vx
  | [.list ds] => (intsD ds).map fun ns => .v (.int ns.sum)
  | _ => none
def dMax : List D → Option Vx
  | [.int i, .int j] => some (.v (.int (if j > i then j else i)))
  | [.list ds] => (match intsD ds with
    | some (n :: ns) => some (.v (.int (ns.foldl max n)))
    | _ => none)
  | _ => none
def dMin : List D → Option Vx
  | [.int i, .int j] => some (.v (.int (if j < i then j else i)))
  | [.list ds] => (match intsD ds with
    | some (n :: ns) => some (.v (.int (ns.foldl min n)))
    | _ => none)
  | _ => none
def tupD1 : D → Bool
  | .tuple (_ :: _) => true
  | _ => false
def othD : D → Bool
  | .none => false
  | .tuple _ => false
  | _ => true
def sortOk (ds : List D) : Bool := (ds.all fun d => ds.all fun e => alike d e) && (ds.all tupD1 || ds.all othD) && (ds.all fun d => decide (d.depth ≤ 64) && d.canLay0) && decide (ds.length ≤ sizeLine)
def sortD (ds : List D) : List D := ds.mergeSort (dataLe false id)
def seqD : D → Option (List D)
  | .list ds => some ds
  | .tuple ds => some ds
  | .dict ((.int 0, .none) :: ps) => some (ps.map (·.1))
  | _ => none
def dSorted : List D → Option Vx
  | [d] => (match seqD d with
    | some ds => if sortOk ds = true then some (.nw (.list (sortD ds))) else none
    | none => none)
  | _ => none
section
variable {K : Kx} {mg : Str → Option Value} {W : WX}
variable {P P' : Pr} {G G' H H' : Hp} {e e' : En} {σ σ' : L2.St} {v : V} {x : Vx} {Dn : Ends}
theorem Paired.one1 {R : V → D → Prop} {vs : List V} {d : D} (h : Paired R vs [d]) : ∃ v, vs = [v] ∧ R v d := by
  cases h with
  | cons a b => cases b; exact ⟨_, rfl, a⟩
theorem Paired.two2 {R : V → D → Prop} {vs : List V} {c d : D} (h : Paired R vs [c, d]) : ∃ v w, vs = [v, w] ∧ R v c ∧ R w d := by
  cases h with
  | cons a b => obtain ⟨w, rfl, q⟩ := Paired.one1 b; exact ⟨_, w, rfl, a, q⟩
theorem Rl.ints : ∀ {vs : List V} {ds : List D} {ns : List Int}, Rl K mg G vs ds → intsD ds = some ns → vs = ns.map V.int
  | _, _, _, .nil, h => by cases h; rfl
  | _, .int i :: ds, _, .cons a b, h => by
    obtain ⟨ms, hm, rfl⟩ := Option.map_eq_some_iff.mp (show (intsD ds).map (i :: ·) = some _ from h)
    cases a
    rw [Rl.ints b hm] <;> rfl
theorem Rl.bools : ∀ {vs : List V} {ds : List D} {ns : List Bool}, Rl K mg G vs ds → boolsD ds = some ns → vs = ns.map V.bl
  | _, _, _, .nil, h => by cases h; rfl
  | _, .bool i :: ds, _, .cons a b, h => by
    obtain ⟨ms, hm, rfl⟩ := Option.map_eq_some_iff.mp (show (boolsD ds).map (i :: ·) = some _ from h)
    cases a
    rw [Rl.bools b hm] <;> rfl
theorem Rk.keys : ∀ {kvs : List (Key × V)} {ps : List (D × D)}, Rk K mg G kvs ps → Rl K mg G (kvs.map fun kv => kV kv.1) (ps.map (·.1))
  | _, _, .nil => .nil
  | _, _, .cons (k := k) a b => .cons (by cases k <;> first | exact .int _ | exact .str _) (Rk.keys b)
theorem Rk.length : ∀ {kvs : List (Key × V)} {ps : List (D × D)}, Rk K mg G kvs ps → kvs.length = ps.length
  | _, _, .nil => rfl
  | _, _, .cons _ b => congrArg Nat.succ (Rk.length b)
theorem c_len : CbI K mg (rLenX K.K) dLen := by
  intro P G H e σ xs ds z Q rl hp h k
  unfold dLen at h
  split at h
  · cases h
    obtain ⟨v, rfl, r⟩ := Paired.one1 hp
    cases r with
    | lst e1 l1 => exact .inl ⟨_, _, rfl, .inl ⟨_, SqL.of e1, rfl⟩, by rw [l1.length]; exact k G H _ rl (Sub.refl _) (.int _)⟩
  · cases h
    obtain ⟨v, rfl, r⟩ := Paired.one1 hp
    cases r with
    | tup e1 l1 => exact .inl ⟨_, _, rfl, .inr ⟨_, rl.sub.q e1, rfl⟩, by rw [l1.length]; exact k G H _ rl (Sub.refl _) (.int _)⟩
  · split at h
    · rename_i c
      cases h
      obtain ⟨v, rfl, r⟩ := Paired.one1 hp
      cases r
      exact .inl ⟨_, _, rfl, ⟨c, rfl⟩, k G H _ rl (Sub.refl _) (.int _)⟩
    · cases h
  · cases h
    obtain ⟨v, rfl, r⟩ := Paired.one1 hp
    cases r with
    | dK e1 l1 => exact .inr ⟨_, _, rfl, e1, by rw [l1.length]; exact k G H _ rl (Sub.refl _) (.int _)⟩
  · cases h
theorem rl_script {ns : List Int} : Rl K mg G (ns.map V.int) (ns.map PyData.int) := by
  induction ns with
  | nil => exact .nil
  | cons n ns ih => exact .cons (.int n) ih
theorem c_list : CbI K mg (rListX K.K) dList := by
  intro P G H e σ xs ds z Q rl hp h k
  unfold dList at h
  split at h
  · cases h
    obtain ⟨v, rfl, r⟩ := Paired.one1 hp
    cases r with
    | lst e1 l1 => exact .inl ⟨_, _, rfl, .inl (SqL.of e1), newL rl l1 k⟩
  · cases h
    obtain ⟨v, rfl, r⟩ := Paired.one1 hp
    cases r with
    | tup e1 l1 => exact .inl ⟨_, _, rfl, .inr (rl.sub.q e1), newL rl l1 k⟩
  · cases h
    obtain ⟨v, rfl, r⟩ := Paired.one1 hp
    cases r with
    | dK e1 l1 => exact .inr ⟨_, _, rfl, e1, newL rl l1.keys k⟩
  · cases h
    obtain ⟨v, rfl, r⟩ := Paired.one1 hp
    cases r with
    | scr e1 => exact .inl ⟨_, _, rfl, .inl (rl.sub.l e1), newL rl rl_script k⟩
  · cases h
theorem c_tup : CbI K mg (rTupE K.K) dTup := by
  intro P G H e σ xs ds z Q rl hp h k
  unfold dTup at h
  split at h
  · cases h
    obtain ⟨v, rfl, r⟩ := Paired.one1 hp
    cases r with
    | lst e1 l1 => exact ⟨_, _, rfl, .inl ⟨SqL.of e1, newTp rl l1 k⟩⟩
  · cases h
    obtain ⟨v, rfl, r⟩ := Paired.one1 hp
    cases r with
    | tup e1 l1 => exact ⟨_, _, rfl, .inr ⟨rl.sub.q e1, k G H _ rl (Sub.refl _) (.tup e1 l1)⟩⟩
  · cases h
theorem c_str : CbI K mg rStrX dStr := by
  intro P G H e σ xs ds z Q rl hp h k
  unfold dStr at h
  split at h
  · split at h
    · rename_i c
      cases h
      obtain ⟨v, rfl, r⟩ := Paired.one1 hp
      cases r
      exact .inl ⟨_, rfl, c, k G H _ rl (Sub.refl _) (.str _)⟩
    · cases h
  · cases h
    obtain ⟨v, rfl, r⟩ := Paired.one1 hp
    cases r
    exact .inr ⟨_, rfl, k G H _ rl (Sub.refl _) (.str _)⟩
  · cases h
theorem c_int : CbI K mg rIntX dInt := by
  intro P G H e σ xs ds z Q rl hp h k
  unfold dInt at h
  split at h
  · cases h
    obtain ⟨v, rfl, r⟩ := Paired.one1 hp
    cases r
    exact .inl ⟨_, rfl, k G H _ rl (Sub.refl _) (.int _)⟩
  · cases h
    obtain ⟨v, rfl, r⟩ := Paired.one1 hp
    cases r
    exact .inr ⟨_, rfl, k G H _ rl (Sub.refl _) (.int _)⟩
  · cases h
theorem c_abs : CbI K mg rAbsX dAbs := by
  intro P G H e σ xs ds z Q rl hp h k
  unfold dAbs at h
  split at h
  · cases h
    obtain ⟨v, rfl, r⟩ := Paired.one1 hp
    cases r
    exact ⟨_, rfl, k G H _ rl (Sub.refl _) (.int _)⟩
  · cases h
theorem c_all : CbI K mg (rAll K.K) dAll := by
  intro P G H e σ xs ds z Q rl hp h k
  unfold dAll at h
  split at h
  · obtain ⟨bs, hb, rfl⟩ := Option.map_eq_some_iff.mp h
    obtain ⟨v, rfl, r⟩ := Paired.one1 hp
    cases r with
    | lst e1 l1 =>
      have := l1.bools hb
      subst this
      exact ⟨_, bs, rfl, SqL.of e1, k G H _ rl (Sub.refl _) (.bl _)⟩
  · cases h
theorem c_any : CbI K mg (rAny K.K) dAny := by
  intro P G H e σ xs ds z Q rl hp h k
  unfold dAny at h
  split at h
  · obtain ⟨bs, hb, rfl⟩ := Option.map_eq_some_iff.mp h
    obtain ⟨v, rfl, r⟩ := Paired.one1 hp
    cases r with
    | lst e1 l1 =>
      have := l1.bools hb
      subst this
      exact ⟨_, bs, rfl, SqL.of e1, k G H _ rl (Sub.refl _) (.bl _)⟩
  · cases h
theorem c_sum : CbI K mg (rSum K.K) dSum := by
  intro P G H e σ xs ds z Q rl hp h k
  unfold dSum at h
  split at h
  · obtain ⟨bs, hb, rfl⟩ := Option.map_eq_some_iff.mp h
    obtain ⟨v, rfl, r⟩ := Paired.one1 hp
    cases r with
    | lst e1 l1 =>
      have := l1.ints hb
      subst this
      exact ⟨_, bs, rfl, SqL.of e1, k G H _ rl (Sub.refl _) (.int _)⟩
  · cases h
theorem foldl_max_mem : ∀ (ns : List Int) (n m : Int), m ∈ n :: ns → (∀ y, y ∈ n :: ns → y ≤ m) → ns.foldl max n = m
  | [], n, m, h, _ => by
    rw [List.mem_singleton] at h
    exact h.symm
  | k :: ns, n, m, h, hu => by
    rw [List.foldl_cons]
    refine foldl_max_mem ns (max n k) m ?_ ?_
    · rcases List.mem_cons.mp h with rfl | h
      · have := hu k (by simp)
        rw [Int.max_eq_left this]
        simp
      · rcases List.mem_cons.mp h with rfl | h
        · have := hu n (by simp)
          rw [Int.max_eq_right this]
          simp
        · exact List.mem_cons_of_mem _ h
    · intro y hy
      rcases List.mem_cons.mp hy with rfl | hy
      · exact Int.max_le.mpr ⟨hu n (by simp), hu k (by simp)⟩
      · exact hu y (by simp [hy])
theorem foldl_min_mem : ∀ (ns : List Int) (n m : Int), m ∈ n :: ns → (∀ y, y ∈ n :: ns → m ≤ y) → ns.foldl min n = m
  | [], n, m, h, _ => by
    rw [List.mem_singleton] at h
    exact h.symm
  | k :: ns, n, m, h, hu => by
    rw [List.foldl_cons]
    refine foldl_min_mem ns (min n k) m ?_ ?_
    · rcases List.mem_cons.mp h with rfl | h
      · have := hu k (by simp)
        rw [Int.min_eq_left this]
        simp
      · rcases List.mem_cons.mp h with rfl | h
        · have := hu n (by simp)
          rw [Int.min_eq_right this]
          simp
        · exact List.mem_cons_of_mem _ h
    · intro y hy
      rcases List.mem_cons.mp hy with rfl | hy
      · exact Int.le_min.mpr ⟨hu n (by simp), hu k (by simp)⟩
      · exact hu y (by simp [hy])
theorem c_max : CbI K mg (rMaxX K.K) dMax := by
  intro P G H e σ xs ds z Q rl hp h k
  unfold dMax at h
  split at h
  · cases h
    obtain ⟨v, w, rfl, r1, r2⟩ := Paired.two2 hp
    cases r1; cases r2
    exact .inl ⟨_, _, rfl, k G H _ rl (Sub.refl _) (.int _)⟩
  · split at h
    · rename_i n ns hb
      cases h
      obtain ⟨v, rfl, r⟩ := Paired.one1 hp
      cases r with
      | lst e1 l1 =>
        have := l1.ints hb
        subst this
        refine .inr ⟨_, n :: ns, rfl, SqL.of e1, by simp, fun m hm hu => ?_⟩
        rw [← foldl_max_mem ns n m hm hu]
        exact k G H _ rl (Sub.refl _) (.int _)
    · cases h
  · cases h
theorem c_min : CbI K mg (rMinX K.K) dMin := by
  intro P G H e σ xs ds z Q rl hp h k
  unfold dMin at h
  split at h
  · cases h
    obtain ⟨v, w, rfl, r1, r2⟩ := Paired.two2 hp
    cases r1; cases r2
    exact .inl ⟨_, _, rfl, k G H _ rl (Sub.refl _) (.int _)⟩
  · split at h
    · rename_i n ns hb
      cases h
      obtain ⟨v, rfl, r⟩ := Paired.one1 hp
      cases r with
      | lst e1 l1 =>
        have := l1.ints hb
        subst this
        refine .inr ⟨_, n :: ns, rfl, SqL.of e1, by simp, fun m hm hu => ?_⟩
        rw [← foldl_min_mem ns n m hm hu]
        exact k G H _ rl (Sub.refl _) (.int _)
    · cases h
  · cases h
/-! sorted -/
theorem rl_dp (s : Sub G H) : ∀ {vs : List V} {ds : List D}, Rl K mg G vs ds → ds.all PyData.canLay0 = true → Paired (Dp K.K H) vs ds
  | _, _, .nil, _ => .nil
  | _, _, .cons a b, h => by
    rw [List.all_cons, Bool.and_eq_true] at h
    exact .cons ((Rp.ro s a).dp s h.1) (rl_dp s b h.2)
theorem rl_zip : ∀ {vs : List V} {ds : List D}, Rl K mg G vs ds → ∀ p, p ∈ vs.zip ds → Rp K mg G p.1 p.2
  | _, _, .nil, p, h => by simp at h
  | _, _, .cons a b, p, h => by
    rw [List.zip_cons_cons, List.mem_cons] at h
    rcases h with rfl | h
    · exact a
    · exact rl_zip b p h
theorem rl_of_pairs : ∀ {ps : List (V × D)}, (∀ p, p ∈ ps → Rp K mg G p.1 p.2) → Rl K mg G (ps.map (·.1)) (ps.map (·.2))
  | [], _ => .nil
  | p :: ps, h => .cons (h p (by simp)) (rl_of_pairs fun q hq => h q (by simp [hq]))
theorem rl_sorted {vs : List V} {ds : List D} (h : Rl K mg G vs ds) : Rl K mg G (((vs.zip ds).mergeSort (dataLe false Prod.snd)).map (·.1)) (sortD ds) := by
  have h1 := rl_of_pairs (K := K) (mg := mg) (G := G) (ps := (vs.zip ds).mergeSort (dataLe false Prod.snd)) fun p hp => rl_zip h p ((List.mergeSort_perm _ _).mem_iff.mp hp)
  have h2 : ((vs.zip ds).mergeSort (dataLe false Prod.snd)).map (·.2) = sortD ds := by
    rw [List.map_mergeSort (r := dataLe false Prod.snd) (s := dataLe false id) (fun a _ b _ => rfl), zip_snd h.length]
    rfl
  rw [h2] at h1
  exact h1
theorem sort_seq {d : D} {ds : List D} (h : seqD d = some ds) (s : Sub G H) (r : Ro K mg G H v d) : ∃ a vs, v = .ref a ∧ (SqL K.K H a vs ∨ SqT K.K H a vs ∨ ∃ kvs, Rd H a (.dK kvs) ∧ vs = kvs.map fun kv => kV kv.1) ∧ Rl K mg G vs ds := by
  unfold seqD at h
  split at h
  · cases h
    cases r with
    | lst e1 l1 => exact ⟨_, _, rfl, .inl (SqL.of e1), l1⟩
  · cases h
    cases r with
    | tup e1 l1 => exact ⟨_, _, rfl, .inr (.inl (s.q e1)), l1⟩
  · cases h
    cases r with
    | dK e1 l1 => exact ⟨_, _, rfl, .inr (.inr ⟨_, e1, rfl⟩), l1.keys⟩
  · cases h
theorem sortOk_get {ds : List D} (h : sortOk ds = true) : AllAlike ds ∧ Sortable ds ∧ ds.length ≤ sizeLine ∧ (∀ d, d ∈ ds → d.depth ≤ 64) ∧ ds.all PyData.canLay0 = true := by
  unfold sortOk at h
  simp only [Bool.and_eq_true, Bool.or_eq_true, List.all_eq_true, decide_eq_true_eq] at h
  obtain ⟨⟨⟨h1, h2⟩, h3⟩, h4⟩ := h
  refine ⟨fun d hd d' hd' => h1 d hd d' hd', ?_, h4, fun d hd => (h3 d hd).1, ?_⟩
  · rcases h2 with h2 | h2
    · refine .inl fun d hd => ?_
      have q := h2 d hd
      unfold tupD1 at q
      split at q
      · exact ⟨_, _, rfl⟩
      · cases q
    · refine .inr fun d hd => ?_
      have q := h2 d hd
      unfold othD at q
      refine ⟨fun z => ?_, fun xs z => ?_⟩ <;> (subst z; cases q)
  · rw [List.all_eq_true]
    exact fun d hd => (h3 d hd).2
/-- sorted, at the context's K -/
theorem c_sorted : CbI K mg (rSortX K.K) dSorted := by
  intro P G H e σ xs ds z Q rl hp h k
  unfold dSorted at h
  split at h
  · split at h
    · rename_i d ds hs
      split at h
      · rename_i c
        cases h
        obtain ⟨v, rfl, r⟩ := Paired.one1 hp
        obtain ⟨g1, g2, g3, g4, g5⟩ := sortOk_get c
        obtain ⟨a, vs, rfl, hv, l⟩ := sort_seq hs rl.sub r
        refine ⟨a, vs, ds, rfl, hv, rl_dp rl.sub l g5, g1, g2, g3, g4, newL rl (rl_sorted l) k⟩
      · cases h
    · cases h
  · cases h
/-! isinstance -/
def isiD (n : String) (d : D) : Option Bool := match n, d with
  | "int", .int _ => some true
  | "int", .bool _ => some true
  | "int", _ => some false
  | "bool", .bool _ => some true
  | "bool", _ => some false
  | "str", .str _ => some true
  | "str", _ => some false
  | "tuple", .tuple _ => some true
  | "tuple", _ => some false
  | _, _ => none
end
end Fw
set_option Elab.async false
set_option linter.all false
set_option maxRecDepth 100000
set_option maxHeartbeats 1000000
/-! Fw10: isinstance; methods; stores into objects; two and three at once. -/
namespace Fw
open PySem PySem.Spec PyProof.Rows L2
/-- a value's type by name -/
def tyD : D → String
  | .none => "NoneType"
  | .bool _ => "bool"
  | .int _ => "int"
  | .str _ => "str"
  | .list _ => "list"
  | .tuple _ => "tuple"
  | .dict _ => "dict"
/-- plain data, not a def, not the script -/
def plD : D → Bool
  | .dict ((.int 0, .none) :: _) => true
  | .dict _ => false
  | _ => true
/-- isinstance(d, n), n one of four built-in types -/
def isiT (n : String) (d : D) : Option Vx :=
  if plD d = true then
    (if n = "int" then some (.v (.bool (tyD d == "int" || tyD d == "bool"))) else if n = "bool" ∨ n = "str" ∨ n = "tuple" then some (.v (.bool (tyD d == n))) else none)
  else none
theorem kit_same : ∀ n ∈ ["int", "bool", "str", "tuple"], ∀ m ∈ ["NoneType", "bool", "int", "str", "list", "tuple", "dict"], kitB m n = some (if n = "int" then (m == "int" || m == "bool") else m == n) := by decide +kernel
theorem tyD_mem (d : D) : tyD d ∈ ["NoneType", "bool", "int", "str", "list", "tuple", "dict"] := by
  cases d <;> simp [tyD]
section
variable {X : Cx}
/-- a built-in type's value, tuples and locked dicts too -/
def tyW (K : PySem.W.Frag) (T : String) (x : V) (H : Hp) : Prop := tyV K T x H ∨ (T = "tuple" ∧ ∃ p xs, x = .ref p ∧ TpX K H p xs) ∨ (T = "dict" ∧ ∃ p kvs, x = .ref p ∧ Rd H p (.dK kvs))
theorem tyW_is {pins : List (Addr × Obj)} {σ : L2.St} {H : Hp} {s : Shared} {T : String} {x : V} {v : Value} (I : Inv X pins σ H s) (r : RelV x v) (ty : tyW X.K T x H) :
    s.TypeIs v T ∧ ∀ a, v = .ref a → ∃ ob, s.heap.get? a = some ob ∧ ob.dict = none := by
  rcases ty with ty | ⟨rfl, p, xs, rfl, h⟩ | ⟨rfl, p, kvs, rfl, h⟩
  · exact tyV_is I r ty
  · cases r
    rcases h with ⟨o, h, hd⟩ | ⟨o, its, n, h, hc, hd, _⟩
    · obtain ⟨e, _, its, _, o', e', hc, _⟩ := I.hok p _ h
      rw [e] at e'
      cases e'
      exact ⟨⟨o, e, hc⟩, fun a z => by cases z; exact ⟨o, e, hd⟩⟩
    · exact ⟨⟨o, I.kIn p o h, hc⟩, fun a z => by cases z; exact ⟨o, I.kIn _ o h, hd⟩⟩
  · cases r
    obtain ⟨_, _, _, _, o, _, _, e, ex, _⟩ := h.ok I.hok
    exact ⟨⟨o, e, ex.1⟩, fun a z => by cases z; exact ⟨o, e, ex.2.1⟩⟩
def tMW0 (K : PySem.W.Frag) (T : String) (r : V → List V → Hp → VK → Prop) (to : TE) : TE := fun σ H Q => to σ H fun x H1 => tyW K T x H1 ∧ r x [] H1 Q
def tMW (K : PySem.W.Frag) (T : String) (r : V → List V → Hp → VK → Prop) (to : TE) (t : TA) : TE := fun σ H Q => to σ H fun x H1 => tyW K T x H1 ∧ t σ H1 fun xs H2 => r x xs H2 Q
variable {o e : Expr} {es : List Expr} {to : TE} {t : TA} {name : Str} {apos cpos : Pos} {T id : String} {r : V → List V → Hp → VK → Prop}
theorem pe_mw0 (pa : PlainAttrs T) (slot : Slot T name id) (hty : typeOf (.builtin id) = pure (.type "method_descriptor")) (hm : MtR X id r) (ho : PE X o to)
    (hbase : attributeBase o name X.env (eval o X.env) = eval o X.env := by rfl) (hline : (apos.endLine == cpos.line) = true := by rfl) : PE X (.Call (.Attribute o name apos) [] [] cpos) (tMW0 X.K T r to) := by
  refine ⟨fun pins s σ H Q I h => ?_⟩
  refine wpAny_Call_method0_late hbase hline (thn (ho.run pins s σ H _ I h) fun v s1 ⟨x, H1, I1, r1, ty, q1⟩ => ?_)
  obtain ⟨h1, h2⟩ := tyW_is I1 r1 ty
  exact ⟨T, id, pa, slot, hty, h1, h2, Calls.callWith_builtin rfl (PySem.evalArgs_none (hm pins s1 σ H1 x [] v [] Q I1 r1 .nil q1))⟩
theorem pe_mw (pa : PlainAttrs T) (slot : Slot T name id) (hty : typeOf (.builtin id) = pure (.type "method_descriptor")) (hm : MtR X id r) (ho : PE X o to) (ha : PA X (e :: es) t)
    (hbase : attributeBase o name X.env (eval o X.env) = eval o X.env := by rfl)
    (hfew : ((backTo cpos (starEach (e :: es) X.env)).all (fun x => !x.1) && (backToKw cpos (keywordEach [] X.env)).all (fun x => x.1.isSome)
      && decide ((e :: es).length + ([] : List Keyword).length + (if ([] : List Keyword).isEmpty then 0 else 1) < 30)) = true := by rfl)
    (hline : (apos.endLine == cpos.line) = true := by rfl) (hs : starEach (e :: es) X.env = (false, eval e X.env) :: starEach es X.env := by rfl) (hplain : (backTo cpos (starEach es X.env)).any (·.1) = false := by rfl) :
    PE X (.Call (.Attribute o name apos) (e :: es) [] cpos) (tMW X.K T r to t) := by
  refine ⟨fun pins s σ H Q I h => ?_⟩
  refine wpAny_Call_method_late hbase hfew hline rfl (thn (ho.run pins s σ H _ I h) fun v s1 ⟨x, H1, I1, r1, ty, q1⟩ => ?_)
  obtain ⟨h1, h2⟩ := tyW_is I1 r1 ty
  refine ⟨T, id, pa, slot, hty, h1, h2, ?_⟩
  have hA := ha.run cpos pins s1 σ H1 _ I1 q1
  rw [hs] at hA ⊢
  refine Calls.callWith_builtin (by show (false || (backTo cpos (starEach es X.env)).any (·.1)) = false; rw [hplain] <;> rfl) (Calls.evalArgs_plain ?_)
  exact thn hA fun us s2 ⟨vs, H2, I2, r2, q2⟩ => hm pins s2 σ H2 x vs v us Q I2 r1 r2 q2
end
/-- the type's check of the value in hand -/
def chkT (T : String) (x : Vx) (e : En) : Bool := match x.d e with
  | some d => plD d && tyD d == T
  | none => false
def mMt1 (f : D → List D → Option Vx) (x : Vx) (xs : List Vx) : Mo Vx := fun e => match x.d e, Vx.ds e xs with
  | some d, some ds => (match f d ds with
    | some z => .ok z e
    | none => .stuck)
  | _, _ => .stuck
/-- a method that changes nothing -/
def mMt (T : String) (f : D → List D → Option Vx) (m : Mo Vx) (ma : Mo (List Vx)) : Mo Vx := mBind m fun x e => if chkT T x e = true then mBind ma (fun xs => mMt1 f x xs) e else .stuck
/-- a method that changes the object in slot i -/
def mutSl (i : Nat) (f : D → List D → Option (D × D)) (ds : List D) : Mo Vx := fun e => match e[i]? with
  | some (.ow d) => (match f d ds with
    | some (r, d') => .ok (.v r) (e.set i (.ow d'))
    | none => .stuck)
  | some (.bo d) => (match f d ds with
    | some (r, d') => .ok (.v r) (e.set i (.bo d'))
    | none => .stuck)
  | _ => .stuck
def mMut (T : String) (i : Nat) (f : D → List D → Option (D × D)) (ma : Mo (List Vx)) : Mo Vx := mBind (mVar i) fun x e => if chkT T x e = true then mBind ma (fun xs => mBind (mVals xs) fun ds => mutSl i f ds) e else .stuck
section
variable {K : Kx} {mg : Str → Option Value} {W : WX}
variable {P P' : Pr} {G G' H H' : Hp} {e e' : En} {σ σ' : L2.St} {v : V} {x : Vx} {Dn : Ends}
theorem ro_ty {d : D} (r : Ro K mg G H v d) (s : Sub G H) (hn : plD d = true) : TyX K.K H v (.type (tyD d)) := by
  cases r with
  | non => exact .base .non
  | bl b => exact .base (.bl b)
  | int i => exact .base (.int i)
  | str z => exact .base (.str z)
  | lst e l => exact .base (.lst e)
  | scr e => cases hn
  | tup e l =>
    rcases s.t e with ⟨o, e, _⟩ | ⟨o, its, n, e, c, _⟩
    · exact .fTuple e
    · exact .kTuple e c
  | fn e => cases hn
  | dK e l =>
    rcases e with e | ⟨o, e⟩
    · exact .base (.dK e)
    · exact .fDict e
theorem ro_tyW {d : D} {T : String} (r : Ro K mg G H v d) (s : Sub G H) (hn : plD d = true) (hT : tyD d = T) (h4 : T = "list" ∨ T = "tuple" ∨ T = "dict" ∨ T = "str") : tyW K.K T v H := by
  subst hT
  cases r with
  | non => simp [tyD] at h4
  | bl b => simp [tyD] at h4
  | int i => simp [tyD] at h4
  | str z => exact .inl rfl
  | lst e l => exact .inl (.inl ⟨rfl, _, SqL.of e⟩)
  | scr e => cases hn
  | tup e l => exact .inr (.inl ⟨rfl, _, _, rfl, s.t e⟩)
  | fn e => cases hn
  | dK e l => exact .inr (.inr ⟨rfl, _, _, rfl, e⟩)
theorem i_isi {te : TE} {m : Mo Vx} {n : String} (hm : ImE K mg W te m) : ImE K mg W (tCB (rIsi K.K) (tCons te (tCons (tC (.ty n)) tNil))) (mUn (isiT n) m) := by
  intro P G H e σ Q rl h
  refine hm P G H e σ _ rl (Po.bind h fun x e1 _ h1 G1 H1 v1 r1 s1 p1 x1 => ?_)
  cases q : x.d e1 with
  | none => rw [q] at h1; exact h1.elim
  | some a =>
    rw [q] at h1
    dsimp only at h1
    cases qf : isiT n a with
    | none => rw [qf] at h1; exact h1.elim
    | some z =>
      rw [qf] at h1
      unfold isiT at qf
      split at qf
      · rename_i hp
        have ty := ro_ty (r1.read x1 q) r1.sub hp
        have key : ∀ b, kitB (tyD a) n = some b → z = .v (.bool b) → rIsi K.K [v1, .ty n] H1 Q := fun b hb hz => by
          subst hz
          exact ⟨v1, .ty n, _, _, b, rfl, .ty n, ty, kit_ty hb, h1 G1 H1 _ r1 s1 p1 (.bl b)⟩
        split at qf
        · rename_i hn
          cases qf
          subst hn
          exact key _ (kit_same "int" (by simp) _ (tyD_mem a)) rfl
        · rename_i hn
          split at qf
          · rename_i hn2
            cases qf
            have hmem : n ∈ ["int", "bool", "str", "tuple"] := by
              rcases hn2 with rfl | rfl | rfl <;> simp
            have := kit_same n hmem _ (tyD_mem a)
            rw [if_neg hn] at this
            exact key _ this rfl
          · cases qf
      · cases qf
/-! ### methods that change nothing -/
def MtI (K : Kx) (mg : Str → Option Value) (r : V → List V → Hp → VK → Prop) (f : D → List D → Option Vx) : Prop := ∀ (P : Pr) (G H : Hp) (e : En) (σ : L2.St) (x : V) (vs : List V) (dx : D) (ds : List D) (z : Vx) (Q : VK), Rel K mg P G H e σ → Ro K mg G H x dx → Paired (Ro K mg G H) vs ds → f dx ds = some z →
  (∀ G' H' v, Rel K mg P G' H' e σ → Sub G G' → Rx K mg P G' H' e σ v z → Q v H') → r x vs H Q
theorem chkT_get {T : String} (h : chkT T x e = true) : ∃ d, x.d e = some d ∧ plD d = true ∧ tyD d = T := by
  unfold chkT at h
  split at h
  · rename_i d hd
    rw [Bool.and_eq_true] at h
    exact ⟨d, hd, h.1, eq_of_beq h.2⟩
  · cases h
theorem i_mt {T : String} {r : V → List V → Hp → VK → Prop} {f : D → List D → Option Vx} {to : TE} {t : TA} {m : Mo Vx} {ma : Mo (List Vx)} (h4 : T = "list" ∨ T = "tuple" ∨ T = "dict" ∨ T = "str") (ho : MtI K mg r f) (hm : ImE K mg W to m) (ha : ImA K mg W t ma) : ImE K mg W (tMW K.K T r to t) (mMt T f m ma) := by
  intro P G H e σ Q rl h
  refine hm P G H e σ _ rl (Po.bind h fun x e1 _ h1 G1 H1 v1 r1 s1 p1 x1 => ?_)
  cases hc : chkT T x e1 with
  | false =>
    rw [hc, if_neg Bool.false_ne_true] at h1
    exact h1.elim
  | true =>
    rw [hc, if_pos rfl] at h1
    obtain ⟨d, hd, hp, hT⟩ := chkT_get hc
    refine ⟨ro_tyW (r1.read x1 hd) r1.sub hp hT h4, ?_⟩
    obtain ⟨P1, le, rc, nb, back⟩ := x1.carry r1
    refine ha P1 G1 H1 e1 σ _ rc (Po.of (fun xs e2 q G2 H2 v2 r2 s2 p2 x2 => ?_) (fun z e2 q G2 H2 cls d r2 s2 p2 xc => ?_) fun q => ?_)
    · rw [mBind_ok q] at h1
      obtain ⟨r3, x3⟩ := back G2 H2 e2 s2 p2 r2
      unfold mMt1 at h1
      cases q1 : x.d e2 with
      | none => rw [q1] at h1; exact h1.elim
      | some a =>
        cases q2 : Vx.ds e2 xs with
        | none => rw [q1, q2] at h1; exact h1.elim
        | some ds =>
          rw [q1, q2] at h1
          dsimp only at h1
          cases qf : f a ds with
          | none => rw [qf] at h1; exact h1.elim
          | some z =>
            rw [qf] at h1
            exact ho P G2 H2 e2 σ v1 v2 a ds z Q r3 (r3.read x3 q1) (r3.ra_d (x2.weak le) q2) qf fun G' H' v r4 s4 x4 => h1 G' H' v r4 ((s1.trans s2).trans s4) (p1.trans p2) x4
    · rw [mBind_exc q] at h1
      obtain ⟨r3, _⟩ := back G2 H2 e2 s2 p2 r2
      exact h1 G2 H2 cls d r3 (s1.trans s2) (p1.trans p2) xc
    · rw [mBind_stuck q] at h1
      exact h1
theorem tMW_0 {T : String} {r : V → List V → Hp → VK → Prop} {to : TE} : tMW0 K.K T r to = tMW K.K T r to tNil := rfl
/-! ### methods that change an object -/
def MuI (K : Kx) (mg : Str → Option Value) (r : V → List V → Hp → VK → Prop) (f : D → List D → Option (D × D)) : Prop := ∀ (G H : Hp) (a : Addr) (d : D) (vs : List V) (ds : List D) (res d' : D) (Q : VK), Sub G H → G a = none → Ob K mg G H a d → Rl K mg G vs ds → f d ds = some (res, d') →
  (∀ v o', Rp K mg G v res → Ob K mg G (upd H a o') a d' → Q v (upd H a o')) → r (.ref a) vs H Q
theorem Shp.mutO {i : Nat} {d : D} (h : e[i]? = some (.ow d)) (d' : D) : Shp e (e.set i (.ow d')) := by
  refine ⟨by simp, fun j s hj => ?_⟩
  by_cases hij : i = j
  · subst hij
    rw [h] at hj
    cases hj
    exact ⟨_, List.get_set_self h, .inl ⟨d', rfl⟩⟩
  · refine ⟨s, by rw [List.getElem?_set_ne hij]; exact hj, ?_⟩
    cases s with
    | un => rfl
    | fz d => rfl
    | ow d => exact .inl ⟨d, rfl⟩
    | bo d => exact ⟨d, rfl⟩
theorem Shp.mutB {i : Nat} {d : D} (h : e[i]? = some (.bo d)) (d' : D) : Shp e (e.set i (.bo d')) := by
  refine ⟨by simp, fun j s hj => ?_⟩
  by_cases hij : i = j
  · subst hij
    rw [h] at hj
    cases hj
    exact ⟨_, List.get_set_self h, ⟨d', rfl⟩⟩
  · refine ⟨s, by rw [List.getElem?_set_ne hij]; exact hj, ?_⟩
    cases s with
    | un => rfl
    | fz d => rfl
    | ow d => exact .inl ⟨d, rfl⟩
    | bo d => exact ⟨d, rfl⟩
/-- the object in slot i is changed -/
theorem Rel.mutSlot (r : Rel K mg P G H e σ) {i : Nat} {a : Addr} {o' : HO} {s s' : Sl} {d' : D} (hs : e[i]? = some s) (hk : (∃ d, s = .ow d ∧ s' = .ow d') ∨ ∃ d, s = .bo d ∧ s' = .bo d') (hv : σ[i]? = some (some (.ref a))) (ho : Ob K mg G (upd H a o') a d') :
    P.Prot a = none ∧ G a = none ∧ Rel K mg P G (upd H a o') (e.set i s') σ := by
  have so : s.isO = true := by rcases hk with ⟨d, rfl, _⟩ | ⟨d, rfl, _⟩ <;> rfl
  have so' : s'.isO = true := by rcases hk with ⟨d, _, rfl⟩ | ⟨d, _, rfl⟩ <;> rfl
  have base : P.Prot a = none ∧ G a = none := by
    have q := r.slot i s hs
    rcases hk with ⟨d, rfl, _⟩ | ⟨d, rfl, _⟩
    · obtain ⟨b, e1, e2, e3, _⟩ := q
      rw [hv] at e1
      cases e1
      exact ⟨e2, e3⟩
    · obtain ⟨b, e1, _, e2, e3, _⟩ := q
      rw [hv] at e1
      cases e1
      exact ⟨e2, e3⟩
  obtain ⟨hp, hg⟩ := base
  have mv : ∀ b : Addr, b ≠ a → ∀ o, H b = some o → upd H a o' b = some o := fun b hb o h => by rw [upd_ne hb]; exact h
  have old : ∀ (k : Nat) (t : Sl), k ≠ i → (e.set i s')[k]? = some t → e[k]? = some t := fun k t hk q => by
    rw [List.getElem?_set_ne (Ne.symm hk)] at q
    exact q
  refine ⟨hp, hg, fun b u h => ?_, fun b u h => ?_, r.gp, by rw [List.length_set]; exact r.len, fun j t hj => ?_, fun j k t u b hjk hj hk' ot ou h1 h2 => ?_⟩
  · rw [upd_ne (ne_of_none h hg)]
    exact r.sub b u h
  · rw [upd_ne (ne_of_none h hp)]
    exact r.prot b u h
  · by_cases hji : j = i
    · subst hji
      rw [List.get_set_self hs] at hj
      cases hj
      have q := r.slot j s hs
      rcases hk with ⟨d, rfl, rfl⟩ | ⟨d, rfl, rfl⟩
      · exact ⟨a, hv, hp, hg, ho⟩
      · obtain ⟨b, e1, eb, _⟩ := q
        rw [hv] at e1
        cases e1
        exact ⟨a, hv, eb, hp, hg, ho⟩
    · have hj' := old j t hji hj
      have q := r.slot j t hj'
      cases t with
      | un => trivial
      | fz d => exact q
      | ow d =>
        obtain ⟨b, e1, e2, e3, e4⟩ := q
        exact ⟨b, e1, e2, e3, e4.move (mv b fun z => r.dist j i _ s a hji hj' hs rfl so (by rw [e1, z]) hv)⟩
      | bo d =>
        obtain ⟨b, e1, eb, e2, e3, e4⟩ := q
        exact ⟨b, e1, eb, e2, e3, e4.move (mv b fun z => r.dist j i _ s a hji hj' hs rfl so (by rw [e1, z]) hv)⟩
  · have cv : ∀ (k : Nat) (t : Sl), (e.set i s')[k]? = some t → t.isO = true → ∃ t0, e[k]? = some t0 ∧ t0.isO = true := fun k t hk ok => by
      by_cases hki : k = i
      · subst hki
        exact ⟨s, hs, so⟩
      · exact ⟨t, old k t hki hk, ok⟩
    obtain ⟨t0, g1, g2⟩ := cv j t hj ot
    obtain ⟨u0, g3, g4⟩ := cv k u hk' ou
    exact r.dist j k t0 u0 b hjk g1 g3 g2 g4 h1 h2
theorem mutSl_ok {i : Nat} {f : D → List D → Option (D × D)} {ds : List D} {z : Vx} (h : mutSl i f ds e = .ok z e') : ∃ d r d', f d ds = some (r, d') ∧ z = .v r ∧ ((e[i]? = some (.ow d) ∧ e' = e.set i (.ow d')) ∨ (e[i]? = some (.bo d) ∧ e' = e.set i (.bo d'))) := by
  unfold mutSl at h
  split at h
  · rename_i d hd
    split at h
    · rename_i r d' hf
      cases h
      exact ⟨d, r, d', hf, rfl, .inl ⟨hd, rfl⟩⟩
    · cases h
  · rename_i d hd
    split at h
    · rename_i r d' hf
      cases h
      exact ⟨d, r, d', hf, rfl, .inr ⟨hd, rfl⟩⟩
    · cases h
  · cases h
theorem mutSl_ne {i : Nat} {f : D → List D → Option (D × D)} {ds : List D} {z : D} : mutSl i f ds e ≠ .exc z e' := by
  intro h
  unfold mutSl at h
  split at h
  · split at h <;> cases h
  · split at h <;> cases h
  · cases h
theorem i_mut {T : String} {i : Nat} {r : V → List V → Hp → VK → Prop} {f : D → List D → Option (D × D)} {t : TA} {ma : Mo (List Vx)} (h4 : T = "list" ∨ T = "tuple" ∨ T = "dict" ∨ T = "str") (ho : MuI K mg r f) (ha : ImA K mg W t ma) : ImE K mg W (tMW K.K T r (tVar i) t) (mMut T i f ma) := by
  intro P G H e σ Q rl h
  refine i_var P G H e σ _ rl (Po.bind h fun x e1 hx0 h1 G1 H1 v1 r1 s1 p1 x1 => ?_)
  cases hc : chkT T x e1 with
  | false =>
    rw [hc, if_neg Bool.false_ne_true] at h1
    exact h1.elim
  | true =>
    rw [hc, if_pos rfl] at h1
    obtain ⟨d, hd, hp, hT⟩ := chkT_get hc
    refine ⟨ro_tyW (r1.read x1 hd) r1.sub hp hT h4, ?_⟩
    obtain ⟨P1, le, rc, nb, back⟩ := x1.carry r1
    refine ha P1 G1 H1 e1 σ _ rc (Po.of (fun xs e2 q G2 H2 v2 r2 s2 p2 x2 => ?_) (fun z e2 q G2 H2 cls d r2 s2 p2 xc => ?_) fun q => ?_)
    · rw [mBind_ok q] at h1
      obtain ⟨r3, x3⟩ := back G2 H2 e2 s2 p2 r2
      cases q2 : mVals xs e2 with
      | exc y e3 => exact (mVals_noexc q2).elim
      | stuck => rw [mBind_stuck q2] at h1; exact h1.elim
      | ok ds e3 =>
        rw [mBind_ok q2] at h1
        obtain ⟨G3, r4, s4, p4, l4⟩ := Ra.vals r3 (x2.weak le) q2
        cases q3 : mutSl i f ds e3 with
        | exc y e4 => exact (mutSl_ne q3).elim
        | stuck => rw [q3] at h1; exact h1.elim
        | ok z e4 =>
          rw [q3] at h1
          obtain ⟨d3, res, d', hf, rfl, hs⟩ := mutSl_ok q3
          -- where the object is
          have at_i : ∀ (s : Sl), e3[i]? = some s → s.isO = true → σ[i]? = some (some v1) := fun s hs hso => by
            unfold mVar at hx0
            have hb := (p1.trans (p2.trans p4)).isO hs hso
            obtain ⟨s0, hs0, hso0⟩ := hb
            rw [hs0] at hx0
            cases s0 with
            | un => cases hso0
            | fz d => cases hso0
            | ow d => cases hx0; exact x1.1
            | bo d => cases hx0; exact x1.1
          have so : ∃ s s', e3[i]? = some s ∧ e4 = e3.set i s' ∧ ((s = .ow d3 ∧ s' = .ow d') ∨ (s = .bo d3 ∧ s' = .bo d')) := by
            rcases hs with ⟨h5, h6⟩ | ⟨h5, h6⟩
            · exact ⟨_, _, h5, h6, .inl ⟨rfl, rfl⟩⟩
            · exact ⟨_, _, h5, h6, .inr ⟨rfl, rfl⟩⟩
          obtain ⟨s, s', h5, rfl, h7⟩ := so
          have hso : s.isO = true := by rcases h7 with ⟨rfl, _⟩ | ⟨rfl, _⟩ <;> rfl
          have hv := at_i s h5 hso
          have sl := r4.slot i s h5
          have ob : ∃ a, v1 = .ref a ∧ G3 a = none ∧ Ob K mg G3 H2 a d3 := by
            rcases h7 with ⟨rfl, _⟩ | ⟨rfl, _⟩
            · obtain ⟨a, f1, _, f3, f4⟩ := sl
              rw [hv] at f1
              cases f1
              exact ⟨a, rfl, f3, f4⟩
            · obtain ⟨a, f1, _, _, f3, f4⟩ := sl
              rw [hv] at f1
              cases f1
              exact ⟨a, rfl, f3, f4⟩
          obtain ⟨a, rfl, hg, hob⟩ := ob
          have shp : Shp e3 (e3.set i s') := by
            rcases h7 with ⟨rfl, rfl⟩ | ⟨rfl, rfl⟩
            · exact Shp.mutO h5 d'
            · exact Shp.mutB h5 d'
          refine ho G3 H2 a d3 v2 ds res d' Q r4.sub hg hob l4 hf fun w o' hw ho' => ?_
          obtain ⟨_, _, r5⟩ := r4.mutSlot (s := s) (s' := s') (d' := d') h5 (by
            rcases h7 with ⟨rfl, rfl⟩ | ⟨rfl, rfl⟩
            · exact .inl ⟨_, rfl, rfl⟩
            · exact .inr ⟨_, rfl, rfl⟩) hv ho'
          exact h1 G3 _ w r5 ((s1.trans s2).trans s4) (p1.trans (p2.trans (p4.trans shp))) hw
    · rw [mBind_exc q] at h1
      obtain ⟨r3, _⟩ := back G2 H2 e2 s2 p2 r2
      exact h1 G2 H2 cls d r3 (s1.trans s2) (p1.trans p2) xc
    · rw [mBind_stuck q] at h1
      exact h1
end
end Fw
set_option Elab.async false
set_option linter.all false
set_option maxRecDepth 100000
set_option maxHeartbeats 1000000
/-! Fw11: stores into objects, two and three at once, x += y; append, insert, pop, index. -/
namespace Fw
open PySem PySem.Spec PyProof.Rows L2
/-! ### two and three at once -/
def frz1 : Vx → Mo Vx
  | .pl j => mBind (mVal (.pl j)) fun d => mRet (Vx.v d)
  | x => mRet x
/-- an argument; what stands in a slot becomes a value at once -/
def mConsF (m : Mo Vx) (r : Mo (List Vx)) : Mo (List Vx) := mBind m fun x => mBind (frz1 x) fun y => mBind r fun xs => mRet (y :: xs)
def putSl : List Nat → List Vx → En → Option En
  | [], [], e => some e
  | i :: is, .v d :: xs, e => (match setSl i (.fz d) e with
    | some e' => putSl is xs e'
    | none => none)
  | i :: is, .nw d :: xs, e => (match setSl i (.ow d) e with
    | some e' => putSl is xs e'
    | none => none)
  | _, _, _ => none
def setsV : List Nat → List V → L2.St → L2.St
  | i :: is, v :: vs, σ => setsV is vs (σ.set i (some v))
  | _, _, σ => σ
def sPar (is : List Nat) (ma : Mo (List Vx)) : So := sOf ma fun xs e => oNx (putSl is xs e)
/-! ### o[i] = e -/
def sSetIx (T : String) (j : Nat) (f : D → List D → Option (D × D)) (mi me : Mo Vx) : So :=
  sOf me fun x => sOf (mVal x) fun d => sOf (mVar j) fun _ => sOf mi fun y => sOf (mVal y) fun k => sOf (mutSl j f [k, d]) fun _ e => .nx e
/-! ### x += e -/
def sAug (i : Nat) (f : D → D → Option Vx) (m : Mo Vx) : So := sOf (mVar i) fun x => sOf m fun y => sOf (mOp2 f x y) fun z => match z with
  | .v d => fun e => oNx (setSl i (.fz d) e)
  | _ => fun _ => .stuck
def sExt (i : Nat) (m : Mo Vx) : So := sOf (mVar i) fun _ => sOf m fun y e => match e[i]?, y.d e with
  | some (.ow (.list xs)), some (.list ys) => if xs.length + ys.length ≤ sizeLine then .nx (e.set i (.ow (.list (xs ++ ys)))) else .stuck
  | _, _ => .stuck
def rOfSet (t : TSet) : V → List V → Hp → VK → Prop := fun x vs H Q => ∃ k v, vs = [k, v] ∧ t x k v H fun H' => Q .non H'
section
variable {K : Kx} {mg : Str → Option Value} {W : WX}
variable {P P' : Pr} {G G' H H' : Hp} {e e' : En} {σ σ' : L2.St} {v : V} {x : Vx} {Dn : Ends}
theorem frz1_noexc {z : D} : frz1 x e ≠ .exc z e' := by
  cases x with
  | pl j =>
    intro h
    have h' : mBind (mVal (.pl j)) (fun d => mRet (Vx.v d)) e = .exc z e' := h
    cases q : mVal (.pl j) e with
    | exc y e1 => exact mVal_noexc q
    | stuck => rw [mBind_stuck q] at h'; cases h'
    | ok d e1 => rw [mBind_ok q] at h'; cases h'
  | v d => exact nofun
  | nw d => exact nofun
theorem Rel.frz (r : Rel K mg P G H e σ) (h : Rx K mg P G H e σ v x) {y : Vx} (hm : frz1 x e = .ok y e') :
    ∃ G', Rel K mg P G' H e' σ ∧ Sub G G' ∧ Shp e e' ∧ Rx K mg P G' H e' σ v y := by
  cases x with
  | pl j =>
    have h' : mBind (mVal (.pl j)) (fun d => mRet (Vx.v d)) e = .ok y e' := hm
    cases q : mVal (.pl j) e with
    | exc y e1 => exact (mVal_noexc q).elim
    | stuck => rw [mBind_stuck q] at h'; cases h'
    | ok d e1 =>
      rw [mBind_ok q] at h'
      cases h'
      obtain ⟨G1, r1, s1, p1, v1, _⟩ := r.val h q
      exact ⟨G1, r1, s1, p1, v1⟩
  | v d => cases hm; exact ⟨G, r, Sub.refl _, Shp.refl _, h⟩
  | nw d => cases hm; exact ⟨G, r, Sub.refl _, Shp.refl _, h⟩
theorem i_consF {te : TE} {tr : TA} {m : Mo Vx} {mr : Mo (List Vx)} (h1 : ImE K mg W te m) (h2 : ImA K mg W tr mr) : ImA K mg W (tCons te tr) (mConsF m mr) := by
  intro P G H e σ Q r h
  refine h1 P G H e σ _ r (Po.bind h fun x0 e0 _ hb0 G0 H0 v1 r0 s0 p0 x00 => ?_)
  have hb0 := hb0.later s0 p0
  cases qf : frz1 x0 e0 with
  | exc z e1 => exact (frz1_noexc qf).elim
  | stuck => rw [mBind_stuck qf] at hb0; exact hb0.elim
  | ok x e1 =>
  rw [mBind_ok qf] at hb0
  obtain ⟨G1, r1, s1, p1, x1⟩ := r0.frz x00 qf
  have hb' := hb0.later s1 p1
  obtain ⟨P1, le, rc, nb, back⟩ := x1.carry r1
  refine h2 P1 G1 H0 e1 σ _ rc (Po.of (fun xs e2 q G2 H2 vs r2 s2 p2 x2 => ?_) (fun z e2 q G2 H2 cls d r2 s2 p2 xc => ?_) fun q => ?_)
  · rw [mBind_ok q] at hb'
    obtain ⟨r3, x3⟩ := back G2 H2 e2 s2 p2 r2
    refine hb' G2 H2 (v1 :: vs) r3 s2 p2 (.cons x3 (x2.weak le) fun a ha i b hxs hv => ?_)
    subst ha
    obtain ⟨c, rfl, _⟩ := x3
    have nn := nb a rfl c rfl
    have this : ∀ {vs : List V} {xs : List Vx}, Ra K mg P1 G2 H2 e2 σ vs xs → ∀ i : Nat, xs[i]? = some (Vx.nw b) → vs[i]? = some (V.ref c) → P1.Prot c = none := by
      intro vs xs ha
      induction ha with
      | nil => intro i hi; simp at hi
      | cons q t n ih =>
        intro i hi hv
        cases i with
        | zero =>
          simp at hi hv
          subst hi hv
          obtain ⟨c', ec, h1, _⟩ := q
          cases ec
          exact h1
        | succ i => exact ih i (by simpa using hi) (by simpa using hv)
    exact nn (this x2 i hxs hv)
  · rw [mBind_exc q] at hb'
    obtain ⟨r3, _⟩ := back G2 H2 e2 s2 p2 r2
    exact hb' G2 H2 cls d r3 s2 p2 xc
  · rw [mBind_stuck q] at hb'
    exact hb'
theorem putSl_noPl : ∀ {is : List Nat} {xs : List Vx} {e e' : En}, putSl is xs e = some e' → ∀ j, Vx.pl j ∉ xs
  | _, [], _, _, _, j => by simp
  | [], x :: xs, e, e', h, j => by cases x <;> simp [putSl] at h
  | i :: is, .pl k :: xs, e, e', h, j => by simp [putSl] at h
  | i :: is, .v d :: xs, e, e', h, j => by
    unfold putSl at h
    split at h
    · have := putSl_noPl h j
      simpa using this
    · cases h
  | i :: is, .nw d :: xs, e, e', h, j => by
    unfold putSl at h
    split at h
    · have := putSl_noPl h j
      simpa using this
    · cases h
theorem Ra.afterSet {i : Nat} {s : Sl} (h : setSl i s e = some e') (hx : s.isO = true → ∃ a, x = .nw a) (hl : i < σ.length) : ∀ {vs : List V} {xs : List Vx}, Ra K mg P G H e σ vs xs → (∀ j, Vx.pl j ∉ xs) → (∀ a, x = .nw a → ∀ (k : Nat) (b : D), xs[k]? = some (Vx.nw b) → vs[k]? ≠ some v) → Ra K mg P G H e' (σ.set i (some v)) vs xs
  | _, _, .nil, _, _ => .nil
  | w :: vs, y :: xs, .cons hy ht hn, np, hd => by
    refine .cons ?_ (Ra.afterSet h hx hl ht (fun j hj => np j (List.mem_cons_of_mem _ hj)) fun a ha k b hb => hd a ha (k + 1) b (by simpa using hb)) hn
    obtain ⟨rfl, hi, nb⟩ := setSl_some h
    cases y with
    | pl j => exact (np j List.mem_cons_self).elim
    | v d => exact hy
    | nw d =>
      obtain ⟨a, rfl, b1, b2, b3, b4⟩ := hy
      refine ⟨a, rfl, b1, b2, fun k t hk ho hz => ?_, b4⟩
      by_cases hki : k = i
      · subst hki
        rw [List.getElem?_set_self hi] at hk
        cases hk
        obtain ⟨c, hc⟩ := hx ho
        rw [List.getElem?_set_self hl] at hz
        exact hd c hc 0 d rfl (congrArg some (Option.some.inj (Option.some.inj hz)).symm)
      · rw [List.getElem?_set_ne (Ne.symm hki)] at hk hz
        exact b3 k t hk ho hz
theorem Rel.puts : ∀ {is : List Nat} {xs : List Vx} {vs : List V} {e : En} {σ : L2.St}, Rel K mg P G H e σ → Ra K mg P G H e σ vs xs → putSl is xs e = some e' → Rel K mg P G H e' (setsV is vs σ) ∧ vs.length = is.length
  | [], [], _, e, σ, r, .nil, h => by cases h; exact ⟨r, rfl⟩
  | [], x :: xs, _, e, σ, r, _, h => by cases x <;> simp [putSl] at h
  | i :: is, [], _, e, σ, r, _, h => by simp [putSl] at h
  | i :: is, .pl k :: xs, _, e, σ, r, _, h => by simp [putSl] at h
  | i :: is, .v d :: xs, _, e, σ, r, .cons (v := v) (vs := vs) hx ht hn, h => by
    unfold putSl at h
    split at h
    · rename_i e1 q
      have r1 := r.set q (.inl ⟨d, rfl, hx⟩)
      have hi : i < σ.length := by rw [r.len]; exact (setSl_some q).2.1
      obtain ⟨g1, g2⟩ := Rel.puts r1 (Ra.afterSet (x := .v d) q nofun hi ht (putSl_noPl h) nofun) h
      exact ⟨g1, congrArg Nat.succ g2⟩
    · cases h
  | i :: is, .nw d :: xs, _, e, σ, r, .cons (v := v) (vs := vs) hx ht hn, h => by
    unfold putSl at h
    split at h
    · rename_i e1 q
      have r1 := r.set q (.inr ⟨d, rfl, hx⟩)
      have hi : i < σ.length := by rw [r.len]; exact (setSl_some q).2.1
      obtain ⟨g1, g2⟩ := Rel.puts r1 (Ra.afterSet (x := .nw d) q (fun _ => ⟨d, rfl⟩) hi ht (putSl_noPl h) hn) h
      exact ⟨g1, congrArg Nat.succ g2⟩
    · cases h
theorem is_par {i j : Nat} {ta : TA} {ma : Mo (List Vx)} (ha : ImA K mg W ta ma) : ImS K mg W (tPar i j ta) (sPar [i, j] ma) := by
  intro P G H e σ Dn r h
  refine ha P G H e σ _ r (PoS.of h fun xs e1 _ h1 G1 H1 vs r1 s1 p1 x1 => ?_)
  obtain ⟨e2, q, k⟩ := PoS.oNx h1
  obtain ⟨r2, hl⟩ := r1.puts x1 q
  match vs, hl with
  | [v, w], _ => exact ⟨v, w, rfl, k G1 H1 _ r2 s1⟩
theorem is_par3 {i j l : Nat} {ta : TA} {ma : Mo (List Vx)} (ha : ImA K mg W ta ma) : ImS K mg W (tPar3 i j l ta) (sPar [i, j, l] ma) := by
  intro P G H e σ Dn r h
  refine ha P G H e σ _ r (PoS.of h fun xs e1 _ h1 G1 H1 vs r1 s1 p1 x1 => ?_)
  obtain ⟨e2, q, k⟩ := PoS.oNx h1
  obtain ⟨r2, hl⟩ := r1.puts x1 q
  match vs, hl with
  | [u, v, w], _ => exact ⟨u, v, w, rfl, k G1 H1 _ r2 s1⟩
/-! ### o[i] = e -/
theorem mutSl_rel {j : Nat} {f : D → List D → Option (D × D)} {ks : List V} {kd : List D} {z : Vx} {r : V → List V → Hp → VK → Prop} {Q : VK} (ho : MuI K mg r f) (rl : Rel K mg P G H e σ) (hl : Rl K mg G ks kd) (hv : ∀ s : Sl, e[j]? = some s → s.isO = true → σ[j]? = some (some v)) (hm : mutSl j f kd e = .ok z e')
    (k : ∀ H' w, Rel K mg P G H' e' σ → Shp e e' → Rx K mg P G H' e' σ w z → Q w H') : r v ks H Q := by
  obtain ⟨d3, res, d', hf, rfl, hs⟩ := mutSl_ok hm
  have so : ∃ s s', e[j]? = some s ∧ e' = e.set j s' ∧ ((s = .ow d3 ∧ s' = .ow d') ∨ (s = .bo d3 ∧ s' = .bo d')) := by
    rcases hs with ⟨h5, h6⟩ | ⟨h5, h6⟩
    · exact ⟨_, _, h5, h6, .inl ⟨rfl, rfl⟩⟩
    · exact ⟨_, _, h5, h6, .inr ⟨rfl, rfl⟩⟩
  obtain ⟨s, s', h5, rfl, h7⟩ := so
  have hso : s.isO = true := by rcases h7 with ⟨rfl, _⟩ | ⟨rfl, _⟩ <;> rfl
  have hv := hv s h5 hso
  have sl := rl.slot j s h5
  have ob : ∃ a, v = .ref a ∧ G a = none ∧ Ob K mg G H a d3 := by
    rcases h7 with ⟨rfl, _⟩ | ⟨rfl, _⟩
    · obtain ⟨a, f1, _, f3, f4⟩ := sl
      rw [hv] at f1
      cases f1
      exact ⟨a, rfl, f3, f4⟩
    · obtain ⟨a, f1, _, _, f3, f4⟩ := sl
      rw [hv] at f1
      cases f1
      exact ⟨a, rfl, f3, f4⟩
  obtain ⟨a, rfl, hg, hob⟩ := ob
  have shp : Shp e (e.set j s') := by
    rcases h7 with ⟨rfl, rfl⟩ | ⟨rfl, rfl⟩
    · exact Shp.mutO h5 d'
    · exact Shp.mutB h5 d'
  refine ho G H a d3 ks kd res d' Q rl.sub hg hob hl hf fun w o' hw ho' => ?_
  obtain ⟨_, _, r5⟩ := rl.mutSlot (s := s) (s' := s') (d' := d') h5 (by
    rcases h7 with ⟨rfl, rfl⟩ | ⟨rfl, rfl⟩
    · exact .inl ⟨_, rfl, rfl⟩
    · exact .inr ⟨_, rfl, rfl⟩) hv ho'
  exact k _ w r5 shp hw
theorem is_setIx {j : Nat} {t : TSet} {f : D → List D → Option (D × D)} {te ti : TE} {me mi : Mo Vx} {T : String} (ho : MuI K mg (rOfSet t) f) (he : ImE K mg W te me) (hi : ImE K mg W ti mi) : ImS K mg W (tAsg te (gSub (tVar j) ti t)) (sSetIx T j f mi me) := by
  intro P G H e σ Dn r h
  refine he P G H e σ _ r (PoS.of h fun x e1 _ h1 G1 H1 v1 r1 s1 p1 x1 => ?_)
  obtain ⟨d, e2, G2, qm, r2, s2, p2, v2, h2⟩ := PoS.val r1 x1 (h1.later s1)
  have h2 := h2.later s2
  refine i_var P G2 H1 e2 σ _ r2 (PoS.of h2 fun xo e3 qv h3 G3 H3 vo r3 s3 p3 x3 => ?_)
  have h3 := h3.later s3
  have e23 : e3 = e2 := by
    unfold mVar at qv
    split at qv <;> first | (cases qv; rfl) | cases qv
  subst e23
  refine hi P G3 H3 e3 σ _ r3 (PoS.of h3 fun y e4 _ h4 G4 H4 vk r4 s4 p4 x4 => ?_)
  obtain ⟨kd, e5, G5, qm5, r5, s5, p5, v5, h5⟩ := PoS.val r4 x4 (h4.later s4)
  have h5 := h5.later s5
  cases q : mutSl j f [kd, d] e5 with
  | exc z e6 => exact (mutSl_ne q).elim
  | stuck => rw [sOf_stuck q] at h5; exact h5.elim
  | ok z e6 =>
    rw [sOf_ok q] at h5
    have hv2 : Rp K mg G5 v1 d := v2.mono ((s3.trans s4).trans s5)
    have hat : ∀ s : Sl, e5[j]? = some s → s.isO = true → σ[j]? = some (some vo) := fun s hs hso => by
      obtain ⟨s0, hs0, hso0⟩ := (p4.trans p5).isO hs hso
      unfold mVar at qv
      rw [hs0] at qv
      cases s0 with
      | un => cases hso0
      | fz d => cases hso0
      | ow d => cases qv; exact x3.1
      | bo d => cases qv; exact x3.1
    have := mutSl_rel (v := vo) (Q := fun _ H' => Dn.nx σ H') ho r5 (.cons v5 (.cons hv2 .nil)) hat q fun H' w r6 p6 x6 => h5 G5 H' σ r6 (Sub.refl _)
    obtain ⟨k', v', hkv, ht⟩ := this
    cases hkv
    exact ht
/-! ### x += e -/
theorem is_aug {i : Nat} {te : TE} {m : Mo Vx} {ti : TIp} {f : D → D → Option Vx} (ho : OpI K mg ti f) (he : ImE K mg W te m) : ImS K mg W (tAug i te ti) (sAug i f m) := by
  intro P G H e σ Dn r h
  have key : ∃ x, σ[i]? = some (some x) ∧ te σ H fun y H1 => ti x y H1 fun z H2 => Dn.nx (σ.set i (some z)) H2 := by
    refine i_var P G H e σ (fun x H0 => te σ H0 fun y H1 => ti x y H1 fun z H2 => Dn.nx (σ.set i (some z)) H2) r (PoS.of h fun x e1 _ h1 G1 H1 v1 r1 s1 p1 x1 => ?_)
    have h1 := h1.later s1
    obtain ⟨P1, le, rc, nb, back⟩ := x1.carry r1
    refine he P1 G1 H1 e1 σ _ rc (Po.of (fun y e2 q G2 H2 v2 r2 s2 p2 x2 => ?_) (fun z e2 q G2 H2 cls d r2 s2 p2 xc => ?_) fun q => ?_)
    · rw [sOf_ok q] at h1
      obtain ⟨r3, x3⟩ := back G2 H2 e2 s2 p2 r2
      have h1 := h1.later s2
      cases q3 : mOp2 f x y e2 with
      | exc z e3 => exact (mOp2_ne q3).elim
      | stuck => rw [sOf_stuck q3] at h1; exact h1.elim
      | ok z e3 =>
        rw [sOf_ok q3] at h1
        obtain ⟨rfl, a, b, qa, qb, qf⟩ := mOp2_ok q3
        refine ho P G2 H2 e3 σ v1 v2 a b z _ r3 (r3.read x3 qa) (r3.read (x2.weak le) qb) qf fun G4 H4 w r4 s4 x4 => ?_
        cases z with
        | v d =>
          obtain ⟨e5, q5, k⟩ := PoS.oNx (h1.later s4)
          exact k G4 H4 _ (r4.set q5 (.inl ⟨d, rfl, x4⟩)) (Sub.refl _)
        | nw d => exact h1.elim
        | pl j => exact h1.elim
    · rw [sOf_exc q] at h1
      obtain ⟨r3, _⟩ := back G2 H2 e2 s2 p2 r2
      exact h1 G2 H2 σ cls d r3 s2 xc
    · rw [sOf_stuck q] at h1
      exact h1
  exact key
/-! ### append, insert, pop, xs[i] = x -/
def fAppend : D → List D → Option (D × D)
  | .list xs, [d] => if xs.length < sizeLine then some (.none, .list (xs ++ [d])) else none
  | _, _ => none
def fInsert : D → List D → Option (D × D)
  | .list xs, [.int i, d] => if xs.length < sizeLine ∧ 0 ≤ i ∧ i < 2 ^ 63 then some (.none, .list (xs.take i.toNat ++ [d] ++ xs.drop i.toNat)) else none
  | _, _ => none
def fPop : D → List D → Option (D × D)
  | .list xs, [] => (xs[xs.length - 1]?).map fun d => (d, .list xs.dropLast)
  | _, _ => none
def fPopAt : D → List D → Option (D × D)
  | .list xs, [.int i] => if -(2 ^ 63) ≤ i ∧ i < 2 ^ 63 then (match seqIndex? i xs.length with
    | some k => (xs[k]?).map fun d => (d, .list (xs.eraseIdx k))
    | none => none) else none
  | _, _ => none
def fSetL : D → List D → Option (D × D)
  | .list xs, [.int i, d] => (ixN xs.length i).map fun j => (.none, .list (xs.set j d))
  | _, _ => none
def rInsert : V → List V → Hp → VK → Prop := fun x vs H Q => ∃ (l : Addr) (xs : List V) (i : Int) (y : V), x = .ref l ∧ vs = [.int i, y] ∧ H l = some (.lst xs) ∧ xs.length < sizeLine ∧ 0 ≤ i ∧ i < 2 ^ 63 ∧
    Q .non (upd H l (.lst (xs.take i.toNat ++ [y] ++ xs.drop i.toNat)))
theorem mt_insertX {X : Cx} : MtR X "list.insert" rInsert := mt_insert
theorem m_append : MuI K mg rAppend fAppend := by
  intro G H a d vs ds res d' Q s hg ob hl hf k
  unfold fAppend at hf
  split at hf
  · split at hf
    · rename_i c
      cases hf
      cases ob with
      | lst e l =>
        cases hl with
        | cons a1 b1 =>
          cases b1
          exact ⟨a, _, _, rfl, rfl, e, by rw [l.length]; exact c, k _ _ .non (.lst upd_same (l.append (.cons a1 .nil)))⟩
    · cases hf
  · cases hf
theorem m_insert : MuI K mg rInsert fInsert := by
  intro G H a d vs ds res d' Q s hg ob hl hf k
  unfold fInsert at hf
  split at hf
  · split at hf
    · rename_i c
      cases hf
      cases ob with
      | lst e l =>
        cases hl with
        | cons a1 b1 =>
          cases a1
          cases b1 with
          | cons a2 b2 =>
            cases b2
            exact ⟨a, _, _, _, rfl, rfl, e, by rw [l.length]; exact c.1, c.2.1, c.2.2, k _ _ .non (.lst upd_same (((l.take _).append (.cons a2 .nil)).append (l.drop _)))⟩
    · cases hf
  · cases hf
theorem Rl.dropLast : ∀ {vs : List V} {ds : List D}, Rl K mg G vs ds → Rl K mg G vs.dropLast ds.dropLast
  | _, _, .nil => .nil
  | _, _, .cons _ .nil => .nil
  | _, _, .cons a (.cons b t) => .cons a (Rl.dropLast (.cons b t))
theorem Rl.eraseIdx : ∀ {vs : List V} {ds : List D} (k : Nat), Rl K mg G vs ds → Rl K mg G (vs.eraseIdx k) (ds.eraseIdx k)
  | _, _, _, .nil => .nil
  | _, _, 0, .cons _ t => t
  | _, _, k + 1, .cons a t => .cons a (Rl.eraseIdx k t)
theorem m_pop : MuI K mg rPop fPop := by
  intro G H a d vs ds res d' Q s hg ob hl hf k
  unfold fPop at hf
  split at hf
  · obtain ⟨d0, hd, hz⟩ := Option.map_eq_some_iff.mp hf
    cases hz
    cases ob with
    | lst e l =>
      cases hl
      obtain ⟨v, hv, rv⟩ := l.get hd
      exact ⟨a, _, v, rfl, rfl, e, by rw [l.length]; exact hv, k _ _ rv (.lst upd_same l.dropLast)⟩
  · cases hf
theorem m_popAt : MuI K mg rPopAt fPopAt := by
  intro G H a d vs ds res d' Q s hg ob hl hf k
  unfold fPopAt at hf
  split at hf
  · split at hf
    · rename_i c
      split at hf
      · rename_i j hj
        obtain ⟨d0, hd, hz⟩ := Option.map_eq_some_iff.mp hf
        cases hz
        cases ob with
        | lst e l =>
          cases hl with
          | cons a1 b1 =>
            cases a1
            cases b1
            obtain ⟨v, hv, rv⟩ := l.get hd
            exact ⟨a, _, _, j, v, rfl, rfl, e, c.1, c.2, by rw [l.length]; exact hj, hv, k _ _ rv (.lst upd_same (l.eraseIdx j))⟩
      · cases hf
    · cases hf
  · cases hf
theorem m_setL : MuI K mg (rOfSet rSetL) fSetL := by
  intro G H a d vs ds res d' Q s hg ob hl hf k
  unfold fSetL at hf
  split at hf
  · obtain ⟨j, hj, hz⟩ := Option.map_eq_some_iff.mp hf
    cases hz
    cases ob with
    | lst e l =>
      cases hl with
      | cons a1 b1 =>
        cases a1
        cases b1 with
        | cons a2 b2 =>
          cases b2
          exact ⟨_, _, rfl, a, _, _, j, rfl, rfl, e, by rw [l.length]; exact hj, k _ _ .non (.lst upd_same (l.set a2 j))⟩
  · cases hf
end
end Fw
set_option Elab.async false
set_option linter.all false
set_option maxRecDepth 100000
set_option maxHeartbeats 1000000
/-! Fw12: what is walked: lists, tuples, texts, ranges. -/
namespace Fw
open PySem PySem.Spec PyProof.Rows L2
def iAny (K : PySem.W.Frag) (te : TE) : TI := fun σ H R => te σ H fun x H1 => (∃ a xs, x = .ref a ∧ SqL K H1 a xs ∧ R (Itl K a) H1) ∨ (∃ a xs, x = .ref a ∧ SqT K H1 a xs ∧ R (Itt K a) H1) ∨ ∃ z, x = .str z ∧ R (Its z) H1
theorem pi_any {X : Cx} {tg l : Expr} {tl : TE} (hl : PE X l tl) : PI X tg l (iAny X.K tl) := by
  refine ⟨fun pins s σ H R I h => ?_⟩
  refine thn (hl.run pins s σ H _ I h) fun v s1 ⟨x, H1, I1, r1, q1⟩ => ?_
  rcases q1 with ⟨a, xs, e, hq, q⟩ | ⟨a, xs, e, hq, q⟩ | ⟨z, e, q⟩
  · subst e
    cases r1
    obtain ⟨its, rv, p, hz⟩ := I1.list hq
    exact wpAny_pyIter_list p.isList (pi_one (tk := s1.toks) I1 _ (turn_list a _) ⟨_, Heap.get?_push_size _ rfl, rfl, rfl⟩ q)
  · subst e
    cases r1
    obtain ⟨its, rv, p, hz⟩ := I1.tuple hq
    exact wpAny_pyIter_tuple (show s1.heap.IsTuple a its.toArray from p) (pi_one (tk := s1.toks) I1 _ (turn_tuple a _) ⟨_, Heap.get?_push_size _ rfl, rfl, rfl⟩ q)
  · subst e
    obtain ⟨t, rfl⟩ := r1
    cases ha : z.cps.all (· < 128)
    · exact wpAny_pyIter_wide ha (pi_one (tk := s1.toks) I1 _ (turn_str _ z t "str_iterator" (.inr rfl)) ⟨_, Heap.get?_push_size _ rfl, rfl, rfl⟩ q)
    · exact wpAny_pyIter_ascii ha (pi_one (tk := s1.toks) I1 _ (turn_str _ z t "str_ascii_iterator" (.inl rfl)) ⟨_, Heap.get?_push_size _ rfl, rfl, rfl⟩ q)
/-- the signs of a text -/
def signsD (z : Str) : List D := z.cps.toList.map fun c => .str ⟨#[c]⟩
/-- what is walked, item by item -/
def itD : D → Option (List D)
  | .list ds => some ds
  | .tuple ds => some ds
  | .str z => some (signsD z)
  | _ => none
def mIt (m : Mo Vx) : Mo (List D) := mBind m fun x => mBind (mVal x) fun d e => match itD d with
  | some ds => .ok ds e
  | none => .stuck
def rngD (i : Int) (n : Nat) : List D := (List.range n).map fun (k : Nat) => .int (i + (k : Int))
def itR1 : List D → Option (List D)
  | [.int j] => if -(2 ^ 62) ≤ j ∧ j < 2 ^ 62 then some (rngD 0 j.toNat) else none
  | _ => none
def itR2 : List D → Option (List D)
  | [.int i, .int j] => if -(2 ^ 62) ≤ i ∧ i < 2 ^ 62 ∧ -(2 ^ 62) ≤ j ∧ j < 2 ^ 62 then some (rngD i (j - i).toNat) else none
  | _ => none
def mItA (f : List D → Option (List D)) (ma : Mo (List Vx)) : Mo (List D) := mBind ma fun xs e => match Vx.ds e xs with
  | some ds => (match f ds with
    | some r => .ok r e
    | none => .stuck)
  | none => .stuck
abbrev mRng1 := mItA itR1
abbrev mRng2 := mItA itR2
section
variable {K : Kx} {mg : Str → Option Value} {W : WX}
variable {P P' : Pr} {G G' H H' : Hp} {e e' : En} {σ σ' : L2.St} {v : V} {x : Vx} {Dn : Ends}
/-- a list that is known as a value -/
theorem wk_list {a : Addr} {xs : List V} {ds : List D} (h : G a = some (.lst xs)) (l : Rl K mg G xs ds) : Wk K mg false P G (Itl K.K a) ds where
  go := fun i G2 H e σ hi r s => ⟨xs, _, SqL.of (r.sub _ _ (s _ _ h)), List.getElem?_eq_getElem (by rw [l.length]; exact hi)⟩
  stop := fun G2 H e σ r s => ⟨xs, SqL.of (r.sub _ _ (s _ _ h)), by rw [l.length]; exact Nat.le_refl _⟩
  yld := fun i d G2 H e σ x H' hd r s y => by
    obtain ⟨rfl, hx⟩ := y
    obtain ⟨v, hv, rv⟩ := l.get hd
    have e := hx xs (SqL.of (r.sub _ _ (s _ _ h)))
    rw [hv] at e
    cases e
    exact ⟨G2, r, Sub.refl _, rv.mono s, Sub.refl _, fun _ _ _ => rfl⟩
theorem wk_tup {a : Addr} {xs : List V} {ds : List D} (h : TpX K.K G a xs) (l : Rl K mg G xs ds) : Wk K mg false P G (Itt K.K a) ds where
  go := fun i G2 H e σ hi r s => ⟨xs, _, r.sub.q (s.t h), List.getElem?_eq_getElem (by rw [l.length]; exact hi)⟩
  stop := fun G2 H e σ r s => ⟨xs, r.sub.q (s.t h), by rw [l.length]; exact Nat.le_refl _⟩
  yld := fun i d G2 H e σ x H' hd r s y => by
    obtain ⟨rfl, hx⟩ := y
    obtain ⟨v, hv, rv⟩ := l.get hd
    have e := hx xs (r.sub.q (s.t h))
    rw [hv] at e
    cases e
    exact ⟨G2, r, Sub.refl _, rv.mono s, Sub.refl _, fun _ _ _ => rfl⟩
theorem wk_str {z : Str} : Wk K mg false P G (Its z) (signsD z) where
  go := fun i G2 H e σ hi r s => by
    have hi' : i < (z.cps.toList.map fun c => PyData.str ⟨#[c]⟩).length := hi
    have h2 : i < z.cps.size := by simpa using hi'
    exact h2
  stop := fun G2 H e σ r s => by
    show z.cps.size ≤ (z.cps.toList.map fun c => PyData.str ⟨#[c]⟩).length
    simp
  yld := fun i d G2 H e σ x H' hd r s y => by
    obtain ⟨rfl, c, hc, rfl⟩ := y
    have hd' : (z.cps.toList.map fun c => PyData.str ⟨#[c]⟩)[i]? = some d := hd
    rw [List.getElem?_map, Array.getElem?_toList, hc] at hd'
    cases hd'
    exact ⟨G2, r, Sub.refl _, .str _, Sub.refl _, fun _ _ _ => rfl⟩
theorem wk_rng {i : Int} {n : Nat} : Wk K mg false P G (Itr i n) (rngD i n) where
  go := fun k G2 H e σ hi r s => by
    have hi' : k < ((List.range n).map fun (k : Nat) => PyData.int (i + (k : Int))).length := hi
    have h2 : k < n := by simpa using hi'
    exact h2
  stop := fun G2 H e σ r s => by
    show n ≤ ((List.range n).map fun (k : Nat) => PyData.int (i + (k : Int))).length
    simp
  yld := fun k d G2 H e σ x H' hd r s y => by
    obtain ⟨rfl, rfl⟩ := y
    have hd' : ((List.range n).map fun (k : Nat) => PyData.int (i + (k : Int)))[k]? = some d := hd
    have hk : k < n := by
      have := (List.getElem?_eq_some_iff.mp hd').1
      simpa using this
    rw [List.getElem?_map, List.getElem?_range hk] at hd'
    cases hd'
    exact ⟨G2, r, Sub.refl _, .int _, Sub.refl _, fun _ _ _ => rfl⟩
theorem ii_any {te : TE} {m : Mo Vx} (hm : ImE K mg W te m) : ImI K mg false W (iAny K.K te) (mIt m) := by
  intro P G H e σ R rl h
  refine hm P G H e σ _ rl (Po.bind h fun x e1 _ h1 G1 H1 v1 r1 s1 p1 x1 => ?_)
  have h1 := h1.later s1 p1
  cases q : mVal x e1 with
  | exc z e2 => exact (mVal_noexc q).elim
  | stuck => rw [mBind_stuck q] at h1; exact h1.elim
  | ok d e2 =>
    rw [mBind_ok q] at h1
    obtain ⟨G2, r2, s2, p2, v2, _⟩ := r1.val x1 q
    cases q2 : itD d with
    | none => rw [q2] at h1; exact h1.elim
    | some ds =>
      rw [q2] at h1
      have k : ∀ J, Wk K mg false P G2 J ds → R J H1 := fun J w => h1 G2 H1 J r2 s2 p2 w
      unfold itD at q2
      split at q2
      · cases q2
        cases v2 with
        | lst a b => exact .inl ⟨_, _, rfl, SqL.of (r2.sub _ _ a), k _ (wk_list a b)⟩
      · cases q2
        cases v2 with
        | tup a b => exact .inr (.inl ⟨_, _, rfl, r2.sub.q a, k _ (wk_tup a b)⟩)
      · cases q2
        cases v2
        exact .inr (.inr ⟨_, rfl, k _ wk_str⟩)
      · cases q2
theorem ii_rng1 {ta : TA} {m : Mo (List Vx)} (hm : ImA K mg W ta m) : ImI K mg false W (iRng1 ta) (mRng1 m) := by
  intro P G H e σ R rl h
  refine hm P G H e σ _ rl (Po.bind h fun x e1 _ h1 G1 H1 v1 r1 s1 p1 x1 => ?_)
  cases q : Vx.ds e1 x with
  | none => rw [q] at h1; exact h1.elim
  | some ds =>
    rw [q] at h1
    dsimp only at h1
    have pr := r1.ra_d x1 q
    cases qr : itR1 ds with
    | none => rw [qr] at h1; exact h1.elim
    | some rs =>
      rw [qr] at h1
      unfold itR1 at qr
      split at qr
      · split at qr
        · rename_i c
          cases qr
          obtain ⟨w, rfl, ro⟩ := Paired.one1 pr
          cases ro
          exact ⟨_, rfl, c.1, c.2, h1 G1 H1 _ r1 s1 p1 wk_rng⟩
        · cases qr
      · cases qr
theorem ii_rng2 {ta : TA} {m : Mo (List Vx)} (hm : ImA K mg W ta m) : ImI K mg false W (iRng2 ta) (mRng2 m) := by
  intro P G H e σ R rl h
  refine hm P G H e σ _ rl (Po.bind h fun x e1 _ h1 G1 H1 v1 r1 s1 p1 x1 => ?_)
  cases q : Vx.ds e1 x with
  | none => rw [q] at h1; exact h1.elim
  | some ds =>
    rw [q] at h1
    dsimp only at h1
    have pr := r1.ra_d x1 q
    cases qr : itR2 ds with
    | none => rw [qr] at h1; exact h1.elim
    | some rs =>
      rw [qr] at h1
      unfold itR2 at qr
      split at qr
      · split at qr
        · rename_i c
          cases qr
          obtain ⟨w, w2, rfl, ro, ro2⟩ := Paired.two2 pr
          cases ro; cases ro2
          exact ⟨_, _, rfl, c, h1 G1 H1 _ r1 s1 p1 wk_rng⟩
        · cases qr
      · cases qr
end
end Fw
set_option Elab.async false
set_option linter.all false
set_option maxRecDepth 100000
set_option maxHeartbeats 2000000
/-! Fw13: zip of two and of three, enumerate: over lists, tuples, texts alike. -/
namespace Fw
open PySem PySem.Spec PyProof.Rows L2
/-- what an iterator is over -/
inductive Sr where
  | l (a : Addr) | t (a : Addr) | s (x : Str) (k : Tok)
def Sr.own : Sr → List Addr
  | .l a => [a]
  | .t a => [a]
  | .s _ _ => []
def Sr.val : Sr → Value
  | .l a => .ref a
  | .t a => .ref a
  | .s x k => .str x k
def signsV (x : Str) : List V := x.cps.toList.map fun c => .str ⟨#[c]⟩
def SrOk (K : PySem.W.Frag) (H : Hp) : Sr → List V → Prop
  | .l a, xs => SqL K H a xs
  | .t a, xs => SqT K H a xs
  | .s x _, xs => xs = signsV x
def Sr.it : Sr → Addr → Nat → Heap → Prop
  | .l a, it, i, h => h.IsListIter it a i
  | .t a, it, i, h => h.IsTupleIter it a i
  | .s x k, it, i, h => h.IsStrIter it (strIterType x) x k i
def Sr.obj : Sr → Obj
  | .l a => { cls := .type "list_iterator", data := .fields #[.ref a, .int 0 0] }
  | .t a => { cls := .type "tuple_iterator", data := .fields #[.ref a, .int 0 0] }
  | .s x k => { cls := .type (strIterType x), data := .fields #[.str x k, .int 0 0] }
section
variable {X : Cx} {pins : List (Addr × Obj)} {σ : L2.St} {H : Hp} {s : Shared}
theorem vals_get' : ∀ {xs : List V} {us : List Value} {i : Nat} {u : Value}, Vals xs us → us[i]? = some u → ∃ x, xs[i]? = some x ∧ RelV x u
  | _, _, _, _, .nil, e => by simp at e
  | _, _, 0, _, .cons r _, e => by simp at e; subst e; exact ⟨_, rfl, r⟩
  | _, _, i + 1, u, .cons _ t, e => by
    obtain ⟨x, h1, h2⟩ := vals_get' (i := i) (u := u) t (by simpa using e)
    exact ⟨x, by simpa using h1, h2⟩
theorem SrOk.inj (I : Inv X pins σ H s) {r : Sr} {xs ys : List V} (h : SrOk X.K H r xs) (h' : SrOk X.K H r ys) : xs = ys := by
  cases r with
  | l a => exact I.list_inj h h'
  | t a => exact I.tuple_inj h h'
  | s x t => exact (show xs = signsV x from h).trans (show ys = signsV x from h').symm
theorem Sr.it_at {r : Sr} {it : Addr} {i : Nat} {h h' : Heap} (x : r.it it i h) (k : ∀ o, h.get? it = some o → h'.get? it = some o) : r.it it i h' := by
  cases r with
  | l a => obtain ⟨o, e, c, d⟩ := x; exact ⟨o, k o e, c, d⟩
  | t a => obtain ⟨o, e, c, d⟩ := x; exact ⟨o, k o e, c, d⟩
  | s z t => obtain ⟨o, e, c, d⟩ := x; exact ⟨o, k o e, c, d⟩
theorem Sr.it_obj {r : Sr} {it : Addr} {i : Nat} {h : Heap} (x : r.it it i h) : ∃ o, h.get? it = some o ∧ ∀ v, o.data ≠ .cell v := by
  cases r with
  | l a => obtain ⟨o, e, c, d⟩ := x; exact ⟨o, e, fun v z => by rw [d] at z; cases z⟩
  | t a => obtain ⟨o, e, c, d⟩ := x; exact ⟨o, e, fun v z => by rw [d] at z; cases z⟩
  | s z t => obtain ⟨o, e, c, d⟩ := x; exact ⟨o, e, fun v z => by rw [d] at z; cases z⟩
theorem Sr.it_new {r : Sr} {it : Addr} {h : Heap} (e : h.get? it = some r.obj) : r.it it 0 h := by
  cases r with
  | l a => exact ⟨_, e, rfl, rfl⟩
  | t a => exact ⟨_, e, rfl, rfl⟩
  | s z t => exact ⟨_, e, rfl, rfl⟩
/-- what draws from it, now -/
theorem SrOk.draws (I : Inv X pins σ H s) (hh : X.A.handled = none) {r : Sr} {xs : List V} (h : SrOk X.K H r xs) (it : Addr) (hit : ∀ b ∈ r.own, b ≠ it) :
    ∃ (P : Nat → Value → Prop) (Hold : Heap → Prop), Draws X.prog X.w X.A.in1 it (it :: r.own) xs.length P (fun i h => r.it it i h ∧ Hold h) ∧ Hold s.heap ∧ ∀ i v, P i v → ∃ x, xs[i]? = some x ∧ RelV x v := by
  cases r with
  | l a =>
    obtain ⟨its, rv, p, hz⟩ := I.list h
    refine ⟨fun i v => its.toArray[i]? = some v, fun h => h.IsList a its.toArray, ?_, p.isList, fun i v hv => ?_⟩
    · have D := Draws.list (prog := X.prog) (w := X.w) (A := X.A.in1) hh it a (hit a (by simp [Sr.own])) its.toArray
      have e : its.toArray.size = xs.length := by rw [List.size_toArray, rv.length]
      rw [e] at D
      exact D
    · have hv' : its[i]? = some v := by simpa using hv
      exact vals_get' rv hv'
  | t a =>
    obtain ⟨its, rv, p, hz⟩ := I.tuple h
    refine ⟨fun i v => its.toArray[i]? = some v, fun h => h.IsTuple a its.toArray, ?_, (show s.heap.IsTuple a its.toArray from p), fun i v hv => ?_⟩
    · have D := Draws.tuple (prog := X.prog) (w := X.w) (A := X.A.in1) hh it a (hit a (by simp [Sr.own])) its.toArray
      have e : its.toArray.size = xs.length := by rw [List.size_toArray, rv.length]
      rw [e] at D
      exact D
    · have hv' : its[i]? = some v := by simpa using hv
      exact vals_get' rv hv'
  | s z t =>
    have h : xs = signsV z := h
    subst h
    refine ⟨fun i v => ∃ c u, z.cps[i]? = some c ∧ v = .str ⟨#[c]⟩ u, fun _ => True, ?_, trivial, fun i v hv => ?_⟩
    · have D := Draws.text (prog := X.prog) (w := X.w) (A := X.A.in1) hh it z t
      have e : z.cps.size = (signsV z).length := by simp [signsV]
      rw [e] at D
      exact ⟨fun i h st => D.live i h st.1, fun i h h' st k => ⟨D.frame i h h' st.1 k, trivial⟩, fun i s Q E hi st q => D.item i s Q E hi st.1 fun x h' tk a b c => q x h' tk a ⟨b, trivial⟩ c, fun s Q E st q => D.done s Q E st.1 q⟩
    · obtain ⟨c, u, hc, rfl⟩ := hv
      refine ⟨.str ⟨#[c]⟩, ?_, u, rfl⟩
      rw [signsV, List.getElem?_map, Array.getElem?_toList, hc] <;> rfl
theorem SrOk.begins (I : Inv X pins σ H s) {r : Sr} {xs : List V} (h : SrOk X.K H r xs) : ∃ Hold : Heap → Prop, Begins r.val r.obj Hold ∧ Hold s.heap ∧ ∀ b ∈ r.own, b < s.heap.objs.size := by
  cases r with
  | l a =>
    obtain ⟨its, rv, p, hz⟩ := I.list h
    exact ⟨fun h => h.IsList a its.toArray, begins_list a its.toArray, p.isList, fun b hb => by rw [List.mem_singleton.mp hb]; exact p.lt⟩
  | t a =>
    obtain ⟨its, rv, p, hz⟩ := I.tuple h
    exact ⟨fun h => h.IsTuple a its.toArray, begins_tuple a its.toArray, p, fun b hb => by rw [List.mem_singleton.mp hb]; exact p.lt⟩
  | s z t => exact ⟨fun _ => True, begins_text z t, trivial, fun b hb => by simp [Sr.own] at hb⟩
/-- what a value is walked as -/
def SrOf (K : PySem.W.Frag) (H : Hp) (x : V) (r : Sr → Prop) : Prop := (∃ a xs, x = .ref a ∧ SqL K H a xs ∧ r (.l a)) ∨ (∃ a xs, x = .ref a ∧ SqT K H a xs ∧ r (.t a)) ∨ ∃ z, x = .str z ∧ ∀ t, r (.s z t)
theorem SrOf.get {K : PySem.W.Frag} {H : Hp} {x : V} {r : Sr → Prop} {v : Value} (h : SrOf K H x r) (rv : RelV x v) : ∃ s xs, Sr.val s = v ∧ SrOk K H s xs ∧ r s := by
  rcases h with ⟨a, xs, rfl, h1, h2⟩ | ⟨a, xs, rfl, h1, h2⟩ | ⟨z, rfl, h2⟩
  · cases rv; exact ⟨.l a, xs, rfl, h1, h2⟩
  · cases rv; exact ⟨.t a, xs, rfl, h1, h2⟩
  · obtain ⟨t, rfl⟩ := rv; exact ⟨.s z t, _, rfl, rfl, h2 t⟩

theorem mem_skip {α : Type} {z t x : α} {l : List α} (h : x ∈ z :: l) : x ∈ z :: t :: l := by
  rcases List.mem_cons.mp h with h | h
  · exact h ▸ List.mem_cons_self
  · exact List.mem_cons_of_mem _ (List.mem_cons_of_mem _ h)
/-! ### zip of two -/
def ItZ (K : PySem.W.Frag) (r1 r2 : Sr) : It :=
  ⟨fun i H => ∃ (xs ys : List V) (x y : V), SrOk K H r1 xs ∧ SrOk K H r2 ys ∧ xs[i]? = some x ∧ ys[i]? = some y,
    fun i H v H' => ∃ T x y, v = .ref T ∧ H T = none ∧ H' = upd H T (.tup [x, y]) ∧ (∀ xs, SrOk K H r1 xs → xs[i]? = some x) ∧ ∀ ys, SrOk K H r2 ys → ys[i]? = some y,
    fun i H => ∃ xs ys : List V, SrOk K H r1 xs ∧ SrOk K H r2 ys ∧ i = min xs.length ys.length⟩
def TnZ (r1 r2 : Sr) (N : Addr) (i : Nat) (h : Heap) : Prop :=
  IsZip h (N + 4) (N + 2) (N + 3) .none ∧ IsTupOf2 h (N + 2) (.ref N) (.ref (N + 1)) ∧ (∃ a b, IsTupOf2 h (N + 3) a b) ∧ r1.it N i h ∧ r2.it (N + 1) i h
theorem turn_z2 {P : Program} {w : World} {K : PySem.W.Frag} {elts : List Expr} {kk : Nat} {tpos : Pos} {r1 r2 : Sr} {N : Addr} (o1 : ∀ b ∈ r1.own, b < N) (o2 : ∀ b ∈ r2.own, b < N) :
    Turn P w K (.Tuple elts kk tpos) (ItZ K r1 r2) [N + 4, N + 2, N + 3, N, N + 1] (N + 4) (TnZ r1 r2 N) where
  mem := by simp
  obj := fun i h st c hc => by
    obtain ⟨hz, hTI, ⟨x, y, hTO⟩, g1, g2⟩ := st
    simp only [List.mem_cons, List.not_mem_nil, or_false] at hc
    rcases hc with q | q | q | q | q <;> subst q
    · exact ⟨_, hz, fun v q => nomatch q⟩
    · exact ⟨_, hTI, fun v q => nomatch q⟩
    · exact ⟨_, hTO, fun v q => nomatch q⟩
    · exact Sr.it_obj g1
    · exact Sr.it_obj g2
  keep := fun i h h' st k => by
    obtain ⟨hz, hTI, ⟨x, y, hTO⟩, g1, g2⟩ := st
    exact ⟨k _ (by simp) _ hz, k _ (by simp) _ hTI, ⟨x, y, k _ (by simp) _ hTO⟩, Sr.it_at g1 fun o q => k _ (by simp) o q, Sr.it_at g2 fun o q => k _ (by simp) o q⟩
  item := by
    intro X hP hw hK hc i pins s σ H E I hf st hg
    subst hP hw hK
    obtain ⟨hz, hTI, hTO, g1, g2⟩ := st
    obtain ⟨xs, ys, x, y, k1, k2, hx, hy⟩ := hg
    obtain ⟨P1, Hold1, D1, b1, v1⟩ := k1.draws I (I.ok.hd hc) N (fun b hb => Nat.ne_of_lt (o1 b hb))
    obtain ⟨P2, Hold2, D2, b2, v2⟩ := k2.draws I (I.ok.hd hc) (N + 1) (fun b hb => Nat.ne_of_lt (Nat.lt_succ_of_lt (o2 b hb)))
    have W := WalksT.zipD2 (zip_sep2 o1 o2) D1 D2
    have hi : i < min xs.length ys.length := Nat.lt_min.mpr ⟨(List.getElem?_eq_some_iff.mp hx).1, (List.getElem?_eq_some_iff.mp hy).1⟩
    refine W.item i s _ _ hi ⟨hz, hTI, hTO, ⟨g1, b1⟩, ⟨g2, b2⟩⟩ fun T vals h' tk hv hT hTup mid kk1 => ?_
    obtain ⟨u1, u2, p1, p2, rfl⟩ := hv
    have hap := W.apart _ _ _ mid
    refine ⟨_, rfl, W.go elts kk tpos i T { s with heap := h', toks := tk } _ _ mid fun h'' st2 kk2 => ?_⟩
    obtain ⟨x', hx', ru1⟩ := v1 i u1 p1
    obtain ⟨y', hy', ru2⟩ := v2 i u2 p2
    rw [hx] at hx'
    rw [hy] at hy'
    cases hx'
    cases hy'
    obtain ⟨oT, eT, cT, nT, dT⟩ := hTup
    have hT2 : h''.get? T = some oT := kk2 _ _ hap eT
    have new : ObjOk X.prog X.w (upd H T (.tup [x, y])) h'' T (.tup [x, y]) := ⟨by show 2 ≤ sizeLine; decide, [u1, u2], .cons ru1 (.cons ru2 .nil), ⟨oT, hT2, cT, nT, dT⟩⟩
    have I1 : Inv X pins σ (upd H T (.tup [x, y])) { s with heap := h'', toks := tk } :=
      I.turnedNew (ch := [N + 4, N + 2, N + 3, N, N + 1]) (fun c o hb q => kk2 c o (fun z => hb (mem_skip z)) (kk1 c o (fun z => hb (mem_skip z)) q)) hf hT new
    obtain ⟨q1, q2, q3, q4, q5⟩ := st2
    refine ⟨.ref T, _, I1, rfl, ⟨T, x, y, rfl, I.hok.fresh hT, rfl, fun l hl => by rw [SrOk.inj I hl k1]; exact hx, fun l hl => by rw [SrOk.inj I hl k2]; exact hy⟩, ⟨q1, q2, q3, q4.1, q5.1⟩, fun c hcm => ?_⟩
    have hlt : c < s.heap.objs.size := by
      simp only [List.mem_cons, List.not_mem_nil, or_false] at hcm
      obtain ⟨_, _, e3⟩ := hTO
      rcases hcm with q | q | q | q | q <;> subst q
      · exact Heap.lt_size hz
      · exact Heap.lt_size hTI
      · exact Heap.lt_size e3
      · obtain ⟨_, e, _⟩ := Sr.it_obj g1; exact Heap.lt_size e
      · obtain ⟨_, e, _⟩ := Sr.it_obj g2; exact Heap.lt_size e
    rw [upd_ne (Nat.ne_of_lt (Nat.lt_of_lt_of_le hlt hT))]
    exact (hf c hcm).1
  done := by
    intro X hP hw hK hc i pins s σ H E I hf st hg
    subst hP hw hK
    obtain ⟨hz, hTI, hTO, g1, g2⟩ := st
    obtain ⟨xs, ys, k1, k2, rfl⟩ := hg
    obtain ⟨P1, Hold1, D1, b1, v1⟩ := k1.draws I (I.ok.hd hc) N (fun b hb => Nat.ne_of_lt (o1 b hb))
    obtain ⟨P2, Hold2, D2, b2, v2⟩ := k2.draws I (I.ok.hd hc) (N + 1) (fun b hb => Nat.ne_of_lt (Nat.lt_succ_of_lt (o2 b hb)))
    have W := WalksT.zipD2 (zip_sep2 o1 o2) D1 D2
    refine W.done s _ _ ⟨hz, hTI, hTO, ⟨g1, b1⟩, ⟨g2, b2⟩⟩ fun h' tk hk => ⟨rfl, I.turnedL (ch := [N + 4, N + 2, N + 3, N, N + 1]) (fun c o hb q => hk c o (fun z => hb (mem_skip z)) q) hf⟩
  self := fun A i s Q E st h => wpAny_pyIter_zip st.1 h
def iZ2 (K : PySem.W.Frag) (ta : TA) : TI := fun σ H R => ta σ H fun vs H1 => ∃ x y, vs = [x, y] ∧ SrOf K H1 x fun r1 => SrOf K H1 y fun r2 => R (ItZ K r1 r2) H1
theorem pi_z2 {X : Cx} {e e2 : Expr} {ta : TA} {p pos tpos : Pos} {elts : List Expr} {kk : Nat} (hg : Gl X "zip") (hm : X.mg "zip" = none) (ha : PA X [e, e2] ta)
    (hs : starEach [e, e2] X.env = (false, eval e X.env) :: starEach [e2] X.env := by rfl) (hpl : (backTo pos (starEach [e2] X.env)).any (·.1) = false := by rfl) :
    PI X (.Tuple elts kk tpos) (.Call (.Name "zip" p) [e, e2] [] pos) (iZ2 X.K ta) := by
  refine ⟨fun pins s σ H R I h => ?_⟩
  refine Call_ (ld_blt I hg hm PyProof.Rows.boot_zip (PyProof.Rows.callWith_type1 (thn (ha.run pos pins s σ H _ I h) fun us s1 ⟨vs, H1, I1, r1, q1⟩ => ?_) hs hpl))
  obtain ⟨x, y, rfl, q⟩ := q1
  obtain ⟨u1, u2, rfl, ru1, ru2⟩ := vals2 r1
  obtain ⟨s1', xs, rfl, k1, q⟩ := q.get ru1
  obtain ⟨s2', ys, rfl, k2, q⟩ := q.get ru2
  obtain ⟨Hd1, B1, h1, o1⟩ := k1.begins I1
  obtain ⟨Hd2, B2, h2, o2⟩ := k2.begins I1
  refine zip_begins2 B1 B2 h1 h2 fun h' hz hTI hTO g1 g2 hsz hk => wpAny_pyIter_zip hz ?_
  have I2 : Inv X pins σ H1 { s1 with heap := h' } := I1.kept (t' := s1.toks) hk
  refine ⟨s1.heap.objs.size + 4, [s1.heap.objs.size + 4, s1.heap.objs.size + 2, s1.heap.objs.size + 3, s1.heap.objs.size, s1.heap.objs.size + 1], _, _, H1, rfl, I2, turn_z2 o1 o2, ⟨hz, hTI, ⟨_, _, hTO⟩, Sr.it_new g1, Sr.it_new g2⟩, fun c hcm => ?_, q⟩
  have hle : s1.heap.objs.size ≤ c := by
    simp only [List.mem_cons, List.not_mem_nil, or_false] at hcm
    rcases hcm with z | z | z | z | z <;> subst z
    · exact Nat.le_add_right _ _
    · exact Nat.le_add_right _ _
    · exact Nat.le_add_right _ _
    · exact Nat.le_refl _
    · exact Nat.le_add_right _ _
  exact I1.fpOk hle (I1.hok.fresh hle)
end
end Fw
set_option Elab.async false
set_option linter.all false
set_option maxRecDepth 100000
set_option maxHeartbeats 2000000
/-! Fw14: enumerate; the walks of data. -/
namespace Fw
open PySem PySem.Spec PyProof.Rows L2
theorem meets_enum1 {v : Value} {o : Obj} {H : Heap → Prop} (B : Begins v o H) :
    Meets (Builtin.«enumerate.__new__» ⟨[.type "enumerate", v], []⟩) (fun _ R s => H s.heap ∧
      R (.ok (.ret (.ref (s.heap.push o).objs.size))) { s with heap := (s.heap.push o).push { cls := .type "enumerate", data := .fields #[.none, .bool false, .ref s.heap.objs.size, rawInt 0, .none, .none] } }) :=
  .of_wp fun prog w A R s h => by
    obtain ⟨hp, g, d, tk, os⟩ := s
    obtain ⟨h1, h⟩ := h
    have hsub := sub_enumerate
    have q1 : ∀ {A' : Around} {E : Value → Shared → Prop} {Q : Value → Shared → Prop}, Q (.ref hp.objs.size) ⟨hp.push o, g, d, tk, os⟩ → wpAny (model prog w) A' (pyIter v) Q E ⟨hp, g, d, tk, os⟩ :=
      fun q => B.iter prog w _ _ ⟨hp, g, d, tk, os⟩ _ h1 q
    wp_walk using q1
    refine wpAny_stack_any fun st => wpAny_pure ?_
    split
    · rename_i c _ _ _ _ _
      cases (c == Value.type "enumerate") <;> (wp_walk using q1; exact ⟨_, rfl, h⟩)
    · wp_walk using q1
      exact ⟨_, rfl, h⟩
theorem enum1_begins {prog : Program} {w : World} {A : Around} {E : Value → Shared → Prop} {s : Shared} {v : Value} {o : Obj} {H : Heap → Prop} {Q : Value → Shared → Prop} (B : Begins v o H) (h1 : H s.heap)
    (h : ∀ h', IsEnum h' (s.heap.objs.size + 1) s.heap.objs.size 0 .none → h'.get? s.heap.objs.size = some o → (∀ b o, s.heap.get? b = some o → h'.get? b = some o) → Q (.ref (s.heap.objs.size + 1)) { s with heap := h' }) :
    wpAny (model prog w) A (call (.type "enumerate") [v]) Q E s := by
  refine callType_new F.called_enumerate (by decide) (F.typeCall_enumerate_1 _) (F.newCall_enumerate_1 _) (fun obj => F.args_object_init_2 obj _) F.entry_enumerate_new (meets_enum1 B) ⟨h1, ?_⟩
  have hz : (s.heap.push o).objs.size = s.heap.objs.size + 1 := Heap.size_push ..
  show _ ∧ _
  rw [hz]
  have he := Heap.get?_push_size (s.heap.push o) (o := { cls := .type "enumerate", data := .fields #[.none, .bool false, .ref s.heap.objs.size, rawInt 0, .none, .none] }) rfl
  rw [hz] at he
  exact ⟨⟨_, he, rfl⟩, h _ he (Heap.get?_push_of_some _ (Heap.get?_push_size _ B.free)) fun b o x => Heap.get?_push_of_some _ (Heap.get?_push_of_some _ x)⟩
def ItE (K : PySem.W.Frag) (r : Sr) : It :=
  ⟨fun i H => ∃ (xs : List V) (x : V), SrOk K H r xs ∧ xs[i]? = some x,
    fun i H v H' => ∃ T x, v = .ref T ∧ H T = none ∧ H' = upd H T (.tup [.int (i : Nat), x]) ∧ ∀ xs, SrOk K H r xs → xs[i]? = some x,
    fun i H => ∃ xs : List V, SrOk K H r xs ∧ i = xs.length⟩
def TnE (r : Sr) (N : Addr) (i : Nat) (h : Heap) : Prop := (∃ old, IsEnum h (N + 1) N ((i : Nat) : Int) old) ∧ r.it N i h
theorem turn_e {P : Program} {w : World} {K : PySem.W.Frag} {elts : List Expr} {kk : Nat} {tpos : Pos} {r : Sr} {N : Addr} (o1 : ∀ b ∈ r.own, b < N) :
    Turn P w K (.Tuple elts kk tpos) (ItE K r) [N + 1, N] (N + 1) (TnE r N) where
  mem := by simp
  obj := fun i h st c hc => by
    obtain ⟨⟨old, he⟩, g1⟩ := st
    simp only [List.mem_cons, List.not_mem_nil, or_false] at hc
    rcases hc with q | q <;> subst q
    · exact ⟨_, he, fun v q => nomatch q⟩
    · exact Sr.it_obj g1
  keep := fun i h h' st k => by
    obtain ⟨⟨old, he⟩, g1⟩ := st
    exact ⟨⟨old, k _ (by simp) _ he⟩, Sr.it_at g1 fun o q => k _ (by simp) o q⟩
  item := by
    intro X hP hw hK hc i pins s σ H E I hf st hg
    subst hP hw hK
    obtain ⟨he, g1⟩ := st
    obtain ⟨xs, x, k1, hx⟩ := hg
    obtain ⟨P1, Hold1, D1, b1, v1⟩ := k1.draws I (I.ok.hd hc) N (fun b hb => Nat.ne_of_lt (o1 b hb))
    have hni : N + 1 ∉ N :: r.own := fun hm => by
      rcases List.mem_cons.mp hm with e | e
      · exact Nat.succ_ne_self _ e
      · exact Nat.lt_irrefl _ (Nat.lt_trans (Nat.lt_succ_self N) (o1 _ e))
    have W := WalksT.enumerateD D1 (N + 1) (Nat.succ_ne_self _) hni List.mem_cons_self
    refine W.item i s _ _ (List.getElem?_eq_some_iff.mp hx).1 ⟨he, g1, b1⟩ fun T vals h' tk hv hT hTup mid kk1 => ?_
    obtain ⟨t, u1, p1, rfl⟩ := hv
    have hap := W.apart _ _ _ mid
    refine ⟨_, rfl, W.go elts kk tpos i T { s with heap := h', toks := tk } _ _ mid fun h'' st2 kk2 => ?_⟩
    obtain ⟨x', hx', ru1⟩ := v1 i u1 p1
    rw [hx] at hx'
    cases hx'
    obtain ⟨oT, eT, cT, nT, dT⟩ := hTup
    have hT2 : h''.get? T = some oT := kk2 _ _ hap eT
    have new : ObjOk X.prog X.w (upd H T (.tup [.int (i : Nat), x])) h'' T (.tup [.int (i : Nat), x]) := ⟨by show 2 ≤ sizeLine; decide, [.int i t, u1], .cons ⟨_, rfl⟩ (.cons ru1 .nil), ⟨oT, hT2, cT, nT, dT⟩⟩
    have I1 : Inv X pins σ (upd H T (.tup [.int (i : Nat), x])) { s with heap := h'', toks := tk } :=
      I.turnedNew (ch := [N + 1, N]) (fun c o hb q => kk2 c o hb (kk1 c o hb q)) hf hT new
    obtain ⟨q1, q2⟩ := st2
    refine ⟨.ref T, _, I1, rfl, ⟨T, x, rfl, I.hok.fresh hT, rfl, fun l hl => by rw [SrOk.inj I hl k1]; exact hx⟩, ⟨q1, q2.1⟩, fun c hcm => ?_⟩
    have hlt : c < s.heap.objs.size := by
      simp only [List.mem_cons, List.not_mem_nil, or_false] at hcm
      obtain ⟨_, e3⟩ := he
      rcases hcm with q | q <;> subst q
      · exact Heap.lt_size e3
      · obtain ⟨_, e, _⟩ := Sr.it_obj g1; exact Heap.lt_size e
    rw [upd_ne (Nat.ne_of_lt (Nat.lt_of_lt_of_le hlt hT))]
    exact (hf c hcm).1
  done := by
    intro X hP hw hK hc i pins s σ H E I hf st hg
    subst hP hw hK
    obtain ⟨he, g1⟩ := st
    obtain ⟨xs, k1, rfl⟩ := hg
    obtain ⟨P1, Hold1, D1, b1, v1⟩ := k1.draws I (I.ok.hd hc) N (fun b hb => Nat.ne_of_lt (o1 b hb))
    have hni : N + 1 ∉ N :: r.own := fun hm => by
      rcases List.mem_cons.mp hm with e | e
      · exact Nat.succ_ne_self _ e
      · exact Nat.lt_irrefl _ (Nat.lt_trans (Nat.lt_succ_self N) (o1 _ e))
    have W := WalksT.enumerateD D1 (N + 1) (Nat.succ_ne_self _) hni List.mem_cons_self
    exact W.done s _ _ ⟨he, g1, b1⟩ fun h' tk hk => ⟨rfl, I.turnedL (ch := [N + 1, N]) (fun c o hb q => hk c o hb q) hf⟩
  self := fun A i s Q E st h => let ⟨⟨_, he⟩, _⟩ := st; wpAny_pyIter_enum he h
def iE1 (K : PySem.W.Frag) (ta : TA) : TI := fun σ H R => ta σ H fun vs H1 => ∃ x, vs = [x] ∧ SrOf K H1 x fun r1 => R (ItE K r1) H1
theorem pi_e1 {X : Cx} {e : Expr} {ta : TA} {p pos tpos : Pos} {elts : List Expr} {kk : Nat} (hg : Gl X "enumerate") (hm : X.mg "enumerate" = none) (ha : PA X [e] ta) (hs : starEach [e] X.env = [(false, eval e X.env)] := by rfl) :
    PI X (.Tuple elts kk tpos) (.Call (.Name "enumerate" p) [e] [] pos) (iE1 X.K ta) := by
  refine ⟨fun pins s σ H R I h => ?_⟩
  refine Call_ (ld_blt I hg hm boot_enumerate (PyProof.Rows.callWith_type1 (thn (ha.run pos pins s σ H _ I h) fun us s1 ⟨vs, H1, I1, r1, q1⟩ => ?_) hs rfl))
  obtain ⟨x, rfl, q⟩ := q1
  obtain ⟨u1, rfl, ru1⟩ := vals1 r1
  obtain ⟨s1', xs, rfl, k1, q⟩ := q.get ru1
  obtain ⟨Hd1, B1, h1, o1⟩ := k1.begins I1
  refine enum1_begins B1 h1 fun h' he g1 hk => wpAny_pyIter_enum he ?_
  have I2 : Inv X pins σ H1 { s1 with heap := h' } := I1.kept (t' := s1.toks) hk
  refine ⟨s1.heap.objs.size + 1, [s1.heap.objs.size + 1, s1.heap.objs.size], _, _, H1, rfl, I2, turn_e o1, ⟨⟨.none, he⟩, Sr.it_new g1⟩, fun c hcm => ?_, q⟩
  have hle : s1.heap.objs.size ≤ c := by
    simp only [List.mem_cons, List.not_mem_nil, or_false] at hcm
    rcases hcm with z | z <;> subst z
    · exact Nat.le_add_right _ _
    · exact Nat.le_refl _
  exact I1.fpOk hle (I1.hok.fresh hle)
/-! ### on data -/
def zipD : List D → List D → List D
  | a :: as, b :: bs => .tuple [a, b] :: zipD as bs
  | _, _ => []
def enumD (n : Nat) : List D → List D
  | [] => []
  | d :: ds => .tuple [.int (n : Nat), d] :: enumD (n + 1) ds
/-- zip(a, b) -/
def mZip (ma mb : Mo Vx) : Mo (List D) := mBind (mCons ma (mCons mb mNil)) fun xs => mBind (mVals xs) fun vs e => match vs with
  | [a, b] => (match itD a, itD b with
    | some as, some bs => .ok (zipD as bs) e
    | _, _ => .stuck)
  | _ => .stuck
def mEnum (ma : Mo Vx) : Mo (List D) := mBind (mCons ma mNil) fun xs => mBind (mVals xs) fun vs e => match vs with
  | [a] => (match itD a with
    | some as => .ok (enumD 0 as) e
    | _ => .stuck)
  | _ => .stuck
theorem zipD_len : ∀ as bs : List D, (zipD as bs).length = min as.length bs.length
  | [], bs => by simp [zipD]
  | _ :: _, [] => by simp [zipD]
  | a :: as, b :: bs => by
    show (zipD as bs).length + 1 = min (as.length + 1) (bs.length + 1)
    rw [zipD_len as bs]
    omega
theorem enumD_len : ∀ (n : Nat) (as : List D), (enumD n as).length = as.length
  | _, [] => rfl
  | n, a :: as => congrArg Nat.succ (enumD_len (n + 1) as)
theorem zipD_get : ∀ {as bs : List D} {i : Nat} {d : D}, (zipD as bs)[i]? = some d → ∃ a b, as[i]? = some a ∧ bs[i]? = some b ∧ d = .tuple [a, b]
  | [], _, _, _, h => by simp [zipD] at h
  | _ :: _, [], _, _, h => by simp [zipD] at h
  | a :: as, b :: bs, 0, d, h => by
    have h' : some (PyData.tuple [a, b]) = some d := h
    cases h'
    exact ⟨a, b, rfl, rfl, rfl⟩
  | a :: as, b :: bs, i + 1, d, h => by
    have h' : (zipD as bs)[i]? = some d := h
    obtain ⟨x, y, h1, h2, h3⟩ := zipD_get h'
    exact ⟨x, y, h1, h2, h3⟩
theorem enumD_get : ∀ {n : Nat} {as : List D} {i : Nat} {d : D}, (enumD n as)[i]? = some d → ∃ a, as[i]? = some a ∧ d = .tuple [.int ((n + i : Nat) : Int), a]
  | _, [], _, _, h => by simp [enumD] at h
  | n, a :: as, 0, d, h => by
    have h' : some (PyData.tuple [.int (n : Nat), a]) = some d := h
    cases h'
    exact ⟨a, rfl, rfl⟩
  | n, a :: as, i + 1, d, h => by
    have h' : (enumD (n + 1) as)[i]? = some d := h
    obtain ⟨x, h1, h2⟩ := enumD_get h'
    refine ⟨x, h1, ?_⟩
    rw [h2]
    have e : n + 1 + i = n + (i + 1) := by omega
    rw [e]
section
variable {K : Kx} {mg : Str → Option Value} {W : WX}
variable {P P' : Pr} {G G' H H' : Hp} {e e' : En} {σ σ' : L2.St} {v : V} {x : Vx} {Dn : Ends}
/-- a source as a value -/
def SrG (K : Kx) (mg : Str → Option Value) (G : Hp) (r : Sr) (ds : List D) : Prop := match r with
  | .l a => ∃ xs, G a = some (.lst xs) ∧ Rl K mg G xs ds
  | .t a => ∃ xs, TpX K.K G a xs ∧ Rl K mg G xs ds
  | .s z _ => ds = signsD z
theorem rl_signs {z : Str} : Rl K mg G (signsV z) (signsD z) := by
  unfold signsV signsD
  generalize z.cps.toList = l
  induction l with
  | nil => exact .nil
  | cons c l ih => exact .cons (.str _) ih
theorem SrG.ok {r : Sr} {ds : List D} (h : SrG K mg G r ds) (s : Sub G H) : ∃ xs, SrOk K.K H r xs ∧ Rl K mg G xs ds := by
  cases r with
  | l a => obtain ⟨xs, h1, h2⟩ := h; exact ⟨xs, SqL.of (s _ _ h1), h2⟩
  | t a => obtain ⟨xs, h1, h2⟩ := h; exact ⟨xs, s.q h1, h2⟩
  | s z t =>
    have h : ds = signsD z := h
    subst h
    exact ⟨_, rfl, rl_signs⟩
theorem SrG.mono {r : Sr} {ds : List D} (h : SrG K mg G r ds) (s : Sub G G') : SrG K mg G' r ds := by
  cases r with
  | l a => obtain ⟨xs, h1, h2⟩ := h; exact ⟨xs, s _ _ h1, h2.mono s⟩
  | t a => obtain ⟨xs, h1, h2⟩ := h; exact ⟨xs, s.t h1, h2.mono s⟩
  | s z t => exact h
theorem srOf {d : D} {ds : List D} {R : Sr → Prop} (h : itD d = some ds) (r : Rp K mg G v d) (s : Sub G H) (k : ∀ r, SrG K mg G r ds → R r) : SrOf K.K H v R := by
  unfold itD at h
  split at h
  · cases h
    cases r with
    | lst a b => exact .inl ⟨_, _, rfl, SqL.of (s _ _ a), k _ ⟨_, a, b⟩⟩
  · cases h
    cases r with
    | tup a b => exact .inr (.inl ⟨_, _, rfl, s.q a, k _ ⟨_, a, b⟩⟩)
  · cases h
    cases r
    exact .inr (.inr ⟨_, rfl, fun t => k _ rfl⟩)
  · cases h
/-- a fresh pair that is unpacked at once -/
theorem Rel.pair (r : Rel K mg P G H e σ) {T : Addr} {vs : List V} {ds : List D} (hT : H T = none) (l : Rl K mg G vs ds) : Rel K mg P G (upd H T (.tup vs)) e σ ∧ Rt K mg true G (upd H T (.tup vs)) (.ref T) (.tuple ds) ∧ Sub H (upd H T (.tup vs)) :=
  ⟨r.grow (Sub.new hT), ⟨T, vs, ds, rfl, rfl, SqT.of upd_same, l⟩, Sub.new hT⟩
theorem wk_zip {r1 r2 : Sr} {as bs : List D} (h1 : SrG K mg G r1 as) (h2 : SrG K mg G r2 bs) : Wk K mg true P G (ItZ K.K r1 r2) (zipD as bs) where
  go := fun i G2 H e σ hi r s => by
    obtain ⟨xs, k1, l1⟩ := (h1.mono s).ok r.sub
    obtain ⟨ys, k2, l2⟩ := (h2.mono s).ok r.sub
    rw [zipD_len] at hi
    exact ⟨xs, ys, _, _, k1, k2, List.getElem?_eq_getElem (by rw [l1.length]; omega), List.getElem?_eq_getElem (by rw [l2.length]; omega)⟩
  stop := fun G2 H e σ r s => by
    obtain ⟨xs, k1, l1⟩ := (h1.mono s).ok r.sub
    obtain ⟨ys, k2, l2⟩ := (h2.mono s).ok r.sub
    exact ⟨xs, ys, k1, k2, by rw [zipD_len, l1.length, l2.length]⟩
  yld := fun i d G2 H e σ x H' hd r s y => by
    obtain ⟨T, x, y, rfl, hT, rfl, f1, f2⟩ := y
    obtain ⟨a, b, ha, hb, rfl⟩ := zipD_get hd
    obtain ⟨xs, k1, l1⟩ := (h1.mono s).ok r.sub
    obtain ⟨ys, k2, l2⟩ := (h2.mono s).ok r.sub
    obtain ⟨v1, g1, rv1⟩ := l1.get ha
    obtain ⟨v2, g2, rv2⟩ := l2.get hb
    have e1 := f1 xs k1
    have e2 := f2 ys k2
    rw [g1] at e1
    rw [g2] at e2
    cases e1
    cases e2
    obtain ⟨q1, q2, q3⟩ := r.pair hT (.cons rv1 (.cons rv2 .nil))
    exact ⟨G2, q1, Sub.refl _, q2, q3, fun _ _ _ => rfl⟩
theorem wk_enum {r1 : Sr} {as : List D} (h1 : SrG K mg G r1 as) : Wk K mg true P G (ItE K.K r1) (enumD 0 as) where
  go := fun i G2 H e σ hi r s => by
    obtain ⟨xs, k1, l1⟩ := (h1.mono s).ok r.sub
    rw [enumD_len] at hi
    exact ⟨xs, _, k1, List.getElem?_eq_getElem (by rw [l1.length]; omega)⟩
  stop := fun G2 H e σ r s => by
    obtain ⟨xs, k1, l1⟩ := (h1.mono s).ok r.sub
    exact ⟨xs, k1, by rw [enumD_len, l1.length]⟩
  yld := fun i d G2 H e σ x H' hd r s y => by
    obtain ⟨T, x, rfl, hT, rfl, f1⟩ := y
    obtain ⟨a, ha, rfl⟩ := enumD_get hd
    obtain ⟨xs, k1, l1⟩ := (h1.mono s).ok r.sub
    obtain ⟨v1, g1, rv1⟩ := l1.get ha
    have e1 := f1 xs k1
    rw [g1] at e1
    cases e1
    have e0 : 0 + i = i := Nat.zero_add i
    rw [e0]
    obtain ⟨q1, q2, q3⟩ := r.pair hT (.cons (.int (i : Nat)) (.cons rv1 .nil))
    exact ⟨G2, q1, Sub.refl _, q2, q3, fun _ _ _ => rfl⟩
theorem ii_zip {ta tb : TE} {ma mb : Mo Vx} (ha : ImE K mg W ta ma) (hb : ImE K mg W tb mb) : ImI K mg true W (iZ2 K.K (tCons ta (tCons tb tNil))) (mZip ma mb) := by
  intro P G H e σ R rl h
  refine i_cons ha (i_cons hb i_nil) P G H e σ _ rl (Po.bind h fun xs e1 _ h1 G1 H1 v1 r1 s1 p1 x1 => ?_)
  have h1 := h1.later s1 p1
  cases q : mVals xs e1 with
  | exc z e2 => exact (mVals_noexc q).elim
  | stuck => rw [mBind_stuck q] at h1; exact h1.elim
  | ok ds e2 =>
    rw [mBind_ok q] at h1
    obtain ⟨G2, r2, s2, p2, l2⟩ := Ra.vals r1 x1 q
    split at h1
    · rename_i a b
      split at h1
      · rename_i as bs qa qb
        cases l2 with
        | cons ra rb =>
          cases rb with
          | cons rb rc =>
            cases rc
            exact ⟨_, _, rfl, srOf qa ra r2.sub fun r1 g1 => srOf qb rb r2.sub fun r2' g2 => h1 G2 H1 _ r2 s2 p2 (wk_zip g1 g2)⟩
      · exact h1.elim
    · exact h1.elim
theorem ii_enum {ta : TE} {ma : Mo Vx} (ha : ImE K mg W ta ma) : ImI K mg true W (iE1 K.K (tCons ta tNil)) (mEnum ma) := by
  intro P G H e σ R rl h
  refine i_cons ha i_nil P G H e σ _ rl (Po.bind h fun xs e1 _ h1 G1 H1 v1 r1 s1 p1 x1 => ?_)
  have h1 := h1.later s1 p1
  cases q : mVals xs e1 with
  | exc z e2 => exact (mVals_noexc q).elim
  | stuck => rw [mBind_stuck q] at h1; exact h1.elim
  | ok ds e2 =>
    rw [mBind_ok q] at h1
    obtain ⟨G2, r2, s2, p2, l2⟩ := Ra.vals r1 x1 q
    split at h1
    · rename_i a
      split at h1
      · rename_i as qa
        cases l2 with
        | cons ra rb =>
          cases rb
          exact ⟨_, rfl, srOf qa ra r2.sub fun r1 g1 => h1 G2 H1 _ r2 s2 p2 (wk_enum g1)⟩
      · exact h1.elim
    · exact h1.elim
end
end Fw
set_option Elab.async false
set_option linter.all false
set_option maxRecDepth 100000
set_option maxHeartbeats 2000000
/-! Fw15: the joined judgements: an expression of the module and its mirror. -/
namespace Fw
open PySem PySem.Spec PyProof.Rows L2
structure Ct where
  K : Kx
  mg : Str → Option Value
  base : Heap
/-- a scope, and which names a store finds though they are cells -/
structure Sx extends Scope where
  fc : Str → Bool
/-- where a def's rows (or a comprehension's within it) run -/
structure Cok (c : Ct) (W : WX) (N : List Str) (sc : Sx) (k : Nat) (X : Cx) : Prop where
  prog : X.prog = c.K.P
  w : X.w = c.K.w
  kk : X.K = c.K.K
  mg : X.mg = c.mg
  base : X.base = c.base
  nn : X.N = N
  scp : X.env.scope = sc.toScope
  calm : X.calm = true
  room : Room k X.A
  tk : Takes X W
  pass : PassesOwn (model X.prog X.w) X.A X.env X.xe
  fn : ∀ x, sc.fc x = true → X.fn x = true
/-- another def of the module as it keeps its mirror -/
def Cal (c : Ct) (k : Nat) (x : Str) (f : Fn) : Prop := ∃ (a : Addr) (fd : FuncData) (ps : List Str), FnOk c.K.P c.K.w c.K.K c.mg c.base (L2.CX c.K.P c.K.w) k a fd ps (FSp c.K c.mg f) ∧ c.mg x = some (.ref a) ∧ PySem.W.keepIn c.K.K (.ref a) = true ∧ Binds c.K.K fd ps []
theorem Cal.mono {c : Ct} {j k : Nat} {x : Str} {f : Fn} (h : Cal c j x f) (l : j ≤ k) : Cal c k x f := by
  obtain ⟨a, fd, ps, h1, h2⟩ := h
  exact ⟨a, fd, ps, h1.mono l, h2⟩
/-- a constant of the module -/
def Gv (c : Ct) (x : Str) (v : V) : Prop := ∃ u, c.mg x = some u ∧ RelV v u
section
variable (c : Ct) (W : WX) (N : List Str) (sc : Sx) (k : Nat)
def JE (e : Expr) (m : Mo Vx) : Prop := ∃ te, (∀ X, Cok c W N sc k X → PE X e te) ∧ ImE c.K c.mg W te m
def JT (e : Expr) (m : Mo Bool) : Prop := ∃ tt, (∀ X, Cok c W N sc k X → PT X e tt) ∧ ImT c.K c.mg W tt m
def JW (e : Expr) (m : Mo Bool) : Prop := ∃ tt, (∀ X, Cok c W N sc k X → PW X e tt) ∧ ImT c.K c.mg W tt m
def JTs (es : List Expr) (m : Mo Bool) : Prop := ∃ tt, (∀ X, Cok c W N sc k X → PTs X es tt) ∧ ImT c.K c.mg W tt m
def JA (es : List Expr) (m : Mo (List Vx)) : Prop := ∃ ta, (∀ X, Cok c W N sc k X → PA X es ta) ∧ ImA c.K c.mg W ta m
def JO (e : Option Expr) (m : Mo (Option Int)) : Prop := ∃ to, (∀ X, Cok c W N sc k X → PO X e to) ∧ ImO c.K c.mg W to m
def JI (raw : Bool) (tg e : Expr) (m : Mo (List D)) : Prop := ∃ wi, (∀ X, Cok c W N sc k X → PI X tg e wi) ∧ ImI c.K c.mg raw W wi m
def JG (e : Expr) (gm : D → En → Option En) : Prop := ∃ g, (∀ X, Cok c W N sc k X → PG X e g) ∧ ImG c.K c.mg g gm
def JGs (es : List Expr) (gm : List D → En → Option En) : Prop := ∃ g, (∀ X, Cok c W N sc k X → PGs X es g) ∧ ImGs c.K c.mg g gm
def JGt (raw : Bool) (e : Expr) (gm : D → En → Option En) : Prop := ∃ g, (∀ X, Cok c W N sc k X → PG X e g) ∧ ImGt c.K c.mg raw g gm
def JC (vs : List Nat) (e : Expr) (gm : D → En → Option En) : Prop := ∃ g, (∀ X, Cok c W N sc k X → PG X e g) ∧ ImC c.K c.mg vs g gm
def JCs (vs : List Nat) (es : List Expr) (gm : List D → En → Option En) : Prop := ∃ g, (∀ X, Cok c W N sc k X → PGs X es g) ∧ ImCs c.K c.mg vs g gm
def JCt (raw : Bool) (vs : List Nat) (e : Expr) (gm : D → En → Option En) : Prop := ∃ g, (∀ X, Cok c W N sc k X → PG X e g) ∧ ImCt c.K c.mg raw vs g gm
def JS (s : Stmt) (m : So) : Prop := ∃ ts, (∀ X, Cok c W N sc k X → PS X s ts) ∧ ImS c.K c.mg W ts m
def JSs (s : List Stmt) (m : So) : Prop := ∃ ts, (∀ X, Cok c W N sc k X → PSs X s ts) ∧ ImS c.K c.mg W ts m
end
section
variable {c : Ct} {W : WX} {N : List Str} {sc : Sx} {k : Nat} {pos pos' p apos cpos : Pos} {e a b d : Expr} {es : List Expr} {m ma mb md : Mo Vx} {mas : Mo (List Vx)} {x : Str}
theorem Cok.un {X : Cx} (h : Cok c W N sc k X) : X.A.units + 66 < cLine := by have := h.room.un; omega
theorem j_var (i : Nat) (hN : N[i]? = some x := by rfl) (hv : sc.names.lookup x = some .local ∨ sc.names.lookup x = some .cell ∨ sc.names.lookup x = some .free := by first | exact Or.inl rfl | exact Or.inr (Or.inl rfl) | exact Or.inr (Or.inr rfl))
    (hd : (x == ("__debug__" : Str)) = false := by decide) (hcd : (x == ("__classdict__" : Str)) = false := by decide) : JE c W N sc k (.Name x pos) (mVar i) :=
  ⟨_, fun X h => pe_var (by rw [h.nn]; exact hN) (by unfold Vis; rw [h.scp]; exact hv) hd hcd, i_var⟩
theorem j_int {i : Int} {j : Nat} : JE c W N sc k (.Constant (.int i) j pos) (mC (.int i)) := ⟨_, fun X h => pe_int, i_int⟩
theorem j_bl {i : Bool} {j : Nat} : JE c W N sc k (.Constant (.bool i) j pos) (mC (.bool i)) := ⟨_, fun X h => pe_bl, i_bl⟩
theorem j_non {j : Nat} : JE c W N sc k (.Constant .none j pos) (mC .none) := ⟨_, fun X h => pe_non, i_non⟩
theorem j_str {z : Str} {j : Nat} : JE c W N sc k (.Constant (.str z) j pos) (mC (.str z)) := ⟨_, fun X h => pe_str, i_str⟩
theorem gl_of {X : Cx} (h : Cok c W N sc k X) (hg : sc.names.lookup x = some .globalImplicit) : Gl X x := by
  show X.env.scope.names.lookup x = _
  rw [h.scp]
  exact hg
theorem j_gv {v : V} {dd : D} (g : Gv c x v) (hr : ∀ G, Rp c.K c.mg G v dd) (hg : sc.names.lookup x = some .globalImplicit := by rfl) (hd : (x == ("__debug__" : Str)) = false := by decide) : JE c W N sc k (.Name x pos) (mC dd) := by
  obtain ⟨u, h1, h2⟩ := g
  exact ⟨_, fun X h => pe_glob (gl_of h hg) (by rw [h.mg]; exact h1) h2 hd, i_c hr⟩
theorem j_gint {i : Int} (g : Gv c x (.int i)) (hg : sc.names.lookup x = some .globalImplicit := by rfl) (hd : (x == ("__debug__" : Str)) = false := by decide) : JE c W N sc k (.Name x pos) (mC (.int i)) := j_gv g (fun _ => .int i) hg hd
theorem j_gstr {z : Str} (g : Gv c x (.str z)) (hg : sc.names.lookup x = some .globalImplicit := by rfl) (hd : (x == ("__debug__" : Str)) = false := by decide) : JE c W N sc k (.Name x pos) (mC (.str z)) := j_gv g (fun _ => .str z) hg hd
/-! ### operations -/
theorem j_op {op : Operator} {r : Ct → R2} {f : D → D → Option Vx} (ho : ∀ X, Cok c W N sc k X → OpR X (binaryOp op) (r c)) (hi : OpI c.K c.mg (r c) f) (ha : JE c W N sc k a ma) (hb : JE c W N sc k b mb) : JE c W N sc k (.BinOp a op b pos) (mOp f ma mb) := by
  obtain ⟨ta, h1, h2⟩ := ha
  obtain ⟨tb, h3, h4⟩ := hb
  exact ⟨_, fun X h => pe_op (ho X h) (h1 X h) (h3 X h), i_op hi h2 h4⟩
theorem j_add (ha : JE c W N sc k a ma) (hb : JE c W N sc k b mb) : JE c W N sc k (.BinOp a .Add b pos) (mOp dAdd ma mb) := j_op (r := fun c => rAddX c.K.K) (fun X h => by have := op_addX (X := X); rw [h.kk] at this; exact this) o_add ha hb
theorem j_sub (ha : JE c W N sc k a ma) (hb : JE c W N sc k b mb) : JE c W N sc k (.BinOp a .Sub b pos) (mOp dSub ma mb) := j_op (r := fun _ => rI0 fun i j => .int (i - j)) (fun X h => op_sub) o_sub ha hb
theorem j_mul (ha : JE c W N sc k a ma) (hb : JE c W N sc k b mb) : JE c W N sc k (.BinOp a .Mult b pos) (mOp dMul ma mb) := j_op (r := fun c => rMulX c.K.K) (fun X h => by have := op_mulX (X := X); rw [h.kk] at this; exact this) o_mul ha hb
theorem j_div (ha : JE c W N sc k a ma) (hb : JE c W N sc k b mb) : JE c W N sc k (.BinOp a .FloorDiv b pos) (mOp dDiv ma mb) := j_op (r := fun _ => rI CDivN fun i j => .int (i.fdiv j)) (fun X h => op_fdivN) o_div ha hb
theorem j_mod (ha : JE c W N sc k a ma) (hb : JE c W N sc k b mb) : JE c W N sc k (.BinOp a .Mod b pos) (mOp dMod ma mb) := j_op (r := fun _ => rI (fun _ j => j ≠ 0) fun i j => .int (i.fmod j)) (fun X h => op_modN) o_mod ha hb
theorem j_pow (ha : JE c W N sc k a ma) (hb : JE c W N sc k b mb) : JE c W N sc k (.BinOp a .Pow b pos) (mOp dPow ma mb) := j_op (r := fun _ => rI CPow fun i j => .int (i ^ j.toNat)) (fun X h => op_pow) o_pow ha hb
theorem j_neg (ha : JE c W N sc k a ma) : JE c W N sc k (.UnaryOp .USub a pos) (mUn dNeg ma) := by
  obtain ⟨ta, h1, h2⟩ := ha
  exact ⟨_, fun X h => pe_un un_neg (h1 X h), i_un u_neg h2⟩
/-! ### comparisons: an operator, its reading, its mirror -/
def rLtS : R2 := fun x y H Q => ∃ i j, x = .str i ∧ y = .str j ∧ Q (.bl (decide (i.cps.toList < j.cps.toList))) H
def rLeS : R2 := fun x y H Q => ∃ i j, x = .str i ∧ y = .str j ∧ Q (.bl (!decide (j.cps.toList < i.cps.toList))) H
def rGtS : R2 := fun x y H Q => ∃ i j, x = .str i ∧ y = .str j ∧ Q (.bl (decide (j.cps.toList < i.cps.toList))) H
def rGeS : R2 := fun x y H Q => ∃ i j, x = .str i ∧ y = .str j ∧ Q (.bl (!decide (i.cps.toList < j.cps.toList))) H
def rLtX : R2 := fun x y H Q => rI0 (fun i j => .bl (decide (i < j))) x y H Q ∨ rLtS x y H Q
def rLeX : R2 := fun x y H Q => rI0 (fun i j => .bl (decide (i ≤ j))) x y H Q ∨ rLeS x y H Q
def rGtX : R2 := fun x y H Q => rI0 (fun i j => .bl (decide (j < i))) x y H Q ∨ rGtS x y H Q
def rGeX : R2 := fun x y H Q => rI0 (fun i j => .bl (decide (j ≤ i))) x y H Q ∨ rGeS x y H Q
def strLt (i j : Str) : Bool := decide (i.cps.toList < j.cps.toList)
/-- ints by p, texts by q -/
def dO (p : Int → Int → Bool) (q : Str → Str → Bool) : D → D → Option Bool := fun a b => match a, b with
  | .int i, .int j => some (p i j)
  | .str i, .str j => some (q i j)
  | _, _ => none
abbrev dLtX := dO (fun i j => decide (i < j)) strLt
abbrev dLeX := dO (fun i j => decide (i ≤ j)) (fun i j => !strLt j i)
abbrev dGtX := dO (fun i j => decide (j < i)) (fun i j => strLt j i)
abbrev dGeX := dO (fun i j => decide (j ≤ i)) (fun i j => !strLt i j)
theorem b_o {K : Kx} {mg : Str → Option Value} {p : Int → Int → Bool} {q : Str → Str → Bool} : OpB K mg (fun x y H Q => rI0 (fun i j => .bl (p i j)) x y H Q ∨ ∃ i j, x = .str i ∧ y = .str j ∧ Q (.bl (q i j)) H) (dO p q) := by
  intro G H x y a b k Q s ra rb h qq
  unfold dO at h
  split at h
  · cases h; cases ra; cases rb
    exact .inl ⟨_, _, rfl, rfl, qq⟩
  · cases h; cases ra; cases rb
    exact .inr ⟨_, _, rfl, rfl, qq⟩
  · cases h
inductive CmpX (c : Ct) (W : WX) (N : List Str) (sc : Sx) (k : Nat) : CmpOp → (D → D → Option Bool) → Prop
  | mk {op : CmpOp} {f : D → D → Option Bool} (r : R2) (h1 : ∀ X, Cok c W N sc k X → OpR X (compareOp op) r) (h2 : OpB c.K c.mg r f) : CmpX c W N sc k op f
theorem cx_eq : CmpX c W N sc k .Eq dEq := .mk (rEqX c.K.K) (fun X h => by have := op_eqX (X := X) (by have := h.un; omega); rw [h.kk] at this; exact this) b_eq
theorem cx_ne : CmpX c W N sc k .NotEq dNe := .mk (rNeX c.K.K) (fun X h => by have := op_neX (X := X) (by have := h.un; omega); rw [h.kk] at this; exact this) b_ne
theorem cx_lt : CmpX c W N sc k .Lt dLtX := .mk rLtX (fun X h => OpR.or op_lt op_lt_str) b_o
theorem cx_le : CmpX c W N sc k .LtE dLeX := .mk rLeX (fun X h => OpR.or op_le op_le_str) b_o
theorem cx_gt : CmpX c W N sc k .Gt dGtX := .mk rGtX (fun X h => OpR.or op_gt op_gt_str) b_o
theorem cx_ge : CmpX c W N sc k .GtE dGeX := .mk rGeX (fun X h => OpR.or op_ge op_ge_str) b_o
theorem cx_is : CmpX c W N sc k .Is dIs := .mk rIsX (fun X h => op_isX) b_is
theorem cx_isn : CmpX c W N sc k .IsNot (fun a b => (dIs a b).map not) := .mk rNotX (fun X h => op_notX) b_not
theorem cx_in : CmpX c W N sc k .In dIn := .mk (rInX c.K.K false) (fun X h => by have := op_inX (X := X) (by have := h.un; omega); rw [h.kk] at this; exact this) b_in
theorem cx_nin : CmpX c W N sc k .NotIn (fun a b => (dIn a b).map not) := .mk (rInX c.K.K true) (fun X h => by have := op_ninX (X := X) (by have := h.un; omega); rw [h.kk] at this; exact this) b_nin
theorem j_cmp {op : CmpOp} {f : D → D → Option Bool} (o : CmpX c W N sc k op f) (ha : JE c W N sc k a ma) (hb : JE c W N sc k b mb) (hm : behindInMarks op b = false := by first | exact nomark _ (by decide) (by decide) | with_unfolding_all rfl) : JE c W N sc k (.Compare a [op] [b] pos) (mOp (opB f) ma mb) := by
  obtain ⟨r, g1, g2⟩ := o
  obtain ⟨ta, h1, h2⟩ := ha
  obtain ⟨tb, h3, h4⟩ := hb
  exact ⟨_, fun X h => pe_cmpR (g1 X h) (h1 X h) (h3 X h) hm, i_cmp g2 h2 h4⟩
theorem jt_cmp {op : CmpOp} {f : D → D → Option Bool} (o : CmpX c W N sc k op f) (ha : JE c W N sc k a ma) (hb : JE c W N sc k b mb) (hm : behindInMarks op b = false := by first | exact nomark _ (by decide) (by decide) | with_unfolding_all rfl) : JT c W N sc k (.Compare a [op] [b] pos) (mTst (mOp (opB f) ma mb)) := by
  obtain ⟨r, g1, g2⟩ := o
  obtain ⟨ta, h1, h2⟩ := ha
  obtain ⟨tb, h3, h4⟩ := hb
  exact ⟨_, fun X h => pt_cmpR (g1 X h) (h1 X h) (h3 X h) hm, i_tst (i_cmp g2 h2 h4)⟩
theorem j_chain {op op' : CmpOp} {f g : D → D → Option Bool} (o : CmpX c W N sc k op f) (o' : CmpX c W N sc k op' g) (ha : JE c W N sc k a ma) (hb : JE c W N sc k b mb) (hd : JE c W N sc k d md) (hm : lastMarks [op, op'] [b, d] = false := by with_unfolding_all rfl) : JE c W N sc k (.Compare a [op, op'] [b, d] pos) (mChain f g ma mb md) := by
  obtain ⟨r, g1, g2⟩ := o
  obtain ⟨r', g3, g4⟩ := o'
  obtain ⟨ta, h1, h2⟩ := ha
  obtain ⟨tb, h3, h4⟩ := hb
  obtain ⟨td, h5, h6⟩ := hd
  exact ⟨_, fun X h => pe_chain (g1 X h) (g3 X h) (h1 X h) (h3 X h) (h5 X h) hm, i_chain g2 g4 h2 h4 h6⟩
theorem jt_chain {op op' : CmpOp} {f g : D → D → Option Bool} (o : CmpX c W N sc k op f) (o' : CmpX c W N sc k op' g) (ha : JE c W N sc k a ma) (hb : JE c W N sc k b mb) (hd : JE c W N sc k d md) (hm : lastMarks [op, op'] [b, d] = false := by with_unfolding_all rfl) : JT c W N sc k (.Compare a [op, op'] [b, d] pos) (mTst (mChain f g ma mb md)) := by
  obtain ⟨r, g1, g2⟩ := o
  obtain ⟨r', g3, g4⟩ := o'
  obtain ⟨ta, h1, h2⟩ := ha
  obtain ⟨tb, h3, h4⟩ := hb
  obtain ⟨td, h5, h6⟩ := hd
  exact ⟨_, fun X h => pt_chain (g1 X h) (g3 X h) (h1 X h) (h3 X h) (h5 X h) hm, i_tst (i_chain g2 g4 h2 h4 h6)⟩
/-! ### and, or, not, if -/
theorem j_one {op : BoolOp} (ha : JE c W N sc k a ma) : JE c W N sc k (.BoolOp op [a] pos) ma := by
  obtain ⟨ta, h1, h2⟩ := ha
  exact ⟨_, fun X h => pe_one (h1 X h), h2⟩
theorem j_and (ha : JE c W N sc k a ma) (hb : JE c W N sc k (.BoolOp .And (b :: es) pos) mb) : JE c W N sc k (.BoolOp .And (a :: b :: es) pos) (mAndV ma mb) := by
  obtain ⟨ta, h1, h2⟩ := ha
  obtain ⟨tb, h3, h4⟩ := hb
  exact ⟨_, fun X h => pe_and (h1 X h) (h3 X h), i_andV h2 h4⟩
theorem j_or (ha : JE c W N sc k a ma) (hb : JE c W N sc k (.BoolOp .Or (b :: es) pos) mb) : JE c W N sc k (.BoolOp .Or (a :: b :: es) pos) (mOrV ma mb) := by
  obtain ⟨ta, h1, h2⟩ := ha
  obtain ⟨tb, h3, h4⟩ := hb
  exact ⟨_, fun X h => pe_or (h1 X h) (h3 X h), i_orV h2 h4⟩
theorem j_not (ha : JE c W N sc k a ma) : JE c W N sc k (.UnaryOp .Not a pos) (mNotV ma) := by
  obtain ⟨ta, h1, h2⟩ := ha
  exact ⟨_, fun X h => pe_not (h1 X h), i_notV h2⟩
theorem jt_val (ha : JE c W N sc k a ma) (he : ∀ (env : Env) (whole : Sem Value), isTrue a env whole = (do let v ← whole; standAt a.pos; holding [v] (truthy v)) := by intro _ _; rfl) : JT c W N sc k a (mTst ma) := by
  obtain ⟨ta, h1, h2⟩ := ha
  exact ⟨_, fun X h => pt_val (h1 X h) (he _), i_tB h2⟩
theorem jw_and1 {t : Mo Bool} (ha : JT c W N sc k a t) : JW c W N sc k (.BoolOp .And [a] pos) t := by
  obtain ⟨ta, h1, h2⟩ := ha
  exact ⟨_, fun X h => pw_and1 (h1 X h), h2⟩
theorem jw_or1 {t : Mo Bool} (ha : JT c W N sc k a t) : JW c W N sc k (.BoolOp .Or [a] pos) t := by
  obtain ⟨ta, h1, h2⟩ := ha
  exact ⟨_, fun X h => pw_or1 (h1 X h), h2⟩
theorem jw_and {t u : Mo Bool} (ha : JT c W N sc k a t) (hb : JW c W N sc k (.BoolOp .And (b :: es) pos) u) : JW c W N sc k (.BoolOp .And (a :: b :: es) pos) (mAnd t u) := by
  obtain ⟨ta, h1, h2⟩ := ha
  obtain ⟨tb, h3, h4⟩ := hb
  exact ⟨_, fun X h => pw_and (h1 X h) (h3 X h), i_and h2 h4⟩
theorem jw_or {t u : Mo Bool} (ha : JT c W N sc k a t) (hb : JW c W N sc k (.BoolOp .Or (b :: es) pos) u) : JW c W N sc k (.BoolOp .Or (a :: b :: es) pos) (mOr t u) := by
  obtain ⟨ta, h1, h2⟩ := ha
  obtain ⟨tb, h3, h4⟩ := hb
  exact ⟨_, fun X h => pw_or (h1 X h) (h3 X h), i_or h2 h4⟩
theorem jt_w {t : Mo Bool} (h : JW c W N sc k a t) : JT c W N sc k a t := by
  obtain ⟨ta, h1, h2⟩ := h
  exact ⟨_, fun X h => (h1 X h).pt, h2⟩
theorem jt_not {t : Mo Bool} (h : JT c W N sc k a t) : JT c W N sc k (.UnaryOp .Not a pos) (mNot t) := by
  obtain ⟨ta, h1, h2⟩ := h
  exact ⟨_, fun X h => pt_not (h1 X h), i_not h2⟩
theorem j_if {t : Mo Bool} (hc : JT c W N sc k d t) (ha : JE c W N sc k a ma) (hb : JE c W N sc k b mb) : JE c W N sc k (.IfExp d a b pos) (mIf t ma mb) := by
  obtain ⟨tc, h5, h6⟩ := hc
  obtain ⟨ta, h1, h2⟩ := ha
  obtain ⟨tb, h3, h4⟩ := hb
  exact ⟨_, fun X h => pe_ifExp (h5 X h) (h1 X h) (h3 X h), i_if h6 h2 h4⟩
/-! ### arguments, displays, subscripts -/
theorem ja_nil : JA c W N sc k [] mNil := ⟨_, fun X h => pa_nil, i_nil⟩
theorem ja_cons (ha : JE c W N sc k a ma) (hr : JA c W N sc k es mas) (hs : ∀ env, starEach (a :: es) env = (false, eval a env) :: starEach es env := by intro _; rfl) : JA c W N sc k (a :: es) (mCons ma mas) := by
  obtain ⟨ta, h1, h2⟩ := ha
  obtain ⟨tb, h3, h4⟩ := hr
  exact ⟨_, fun X h => pa_cons (h1 X h) (h3 X h) (hs _), i_cons h2 h4⟩
theorem ja_consF (ha : JE c W N sc k a ma) (hr : JA c W N sc k es mas) (hs : ∀ env, starEach (a :: es) env = (false, eval a env) :: starEach es env := by intro _; rfl) : JA c W N sc k (a :: es) (mConsF ma mas) := by
  obtain ⟨ta, h1, h2⟩ := ha
  obtain ⟨tb, h3, h4⟩ := hr
  exact ⟨_, fun X h => pa_cons (h1 X h) (h3 X h) (hs _), i_consF h2 h4⟩
theorem j_tup {x1} (ha : JA c W N sc k es mas) : JE c W N sc k (.Tuple es x1 pos) (mTup mas) := by
  obtain ⟨ta, h1, h2⟩ := ha
  exact ⟨_, fun X h => pe_tupE (h1 X h), i_tup h2⟩
theorem j_lst (ha : JA c W N sc k es mas) : JE c W N sc k (.List es pos) (mLst mas) := by
  obtain ⟨ta, h1, h2⟩ := ha
  exact ⟨_, fun X h => pe_lst (h1 X h), i_lst h2⟩
theorem j_ix (ha : JE c W N sc k a ma) (hb : JE c W N sc k b mb) (hs : PlainIx b := by intro _ _; rfl) : JE c W N sc k (.Subscript a b pos) (mOp dIx ma mb) := by
  obtain ⟨ta, h1, h2⟩ := ha
  obtain ⟨tb, h3, h4⟩ := hb
  exact ⟨tOp (rIx c.K.K) ta tb, fun X h => by have := pe_ix (X := X) (pos := pos) ix_seq (h1 X h) (h3 X h) hs; rw [h.kk] at this; exact this, i_op o_ix h2 h4⟩
theorem jo_none : JO c W N sc k none mNoPart := ⟨_, fun X h => po_none, io_none⟩
theorem jo_some (ha : JE c W N sc k a ma) : JO c W N sc k (some a) (mPart ma) := by
  obtain ⟨ta, h1, h2⟩ := ha
  exact ⟨_, fun X h => po_some (h1 X h), io_some h2⟩
theorem j_sl {lo hi : Option Expr} {ml mh : Mo (Option Int)} (ha : JE c W N sc k a ma) (hl : JO c W N sc k lo ml) (hh : JO c W N sc k hi mh) : JE c W N sc k (.Subscript a (.Slice lo hi none p) pos) (mSl dSl ma ml mh) := by
  obtain ⟨ta, h1, h2⟩ := ha
  obtain ⟨tl, h3, h4⟩ := hl
  obtain ⟨th, h5, h6⟩ := hh
  exact ⟨tSl (rSlX c.K.K) ta tl th, fun X h => by have := pe_slice (X := X) (pos := pos) (p2 := p) sl_x (h1 X h) (h3 X h) (h5 X h); rw [h.kk] at this; exact this, i_sl o_sl h2 h4 h6⟩
/-! ### calls -/
theorem j_call {f : Fn} {j : Nat} (F : Cal c j x f) (bs : List Bool) (hj : j ≤ k) (ha : JA c W N sc k (e :: es) mas) (hg : sc.names.lookup x = some .globalImplicit := by rfl) (hdb : (x == ("__debug__" : Str)) = false := by decide)
    (he : ∀ env, starEach (e :: es) env = (false, eval e env) :: starEach es env := by intro _; rfl) (hpl : ∀ env, (backTo pos (starEach es env)).any (·.1) = false := by intro _; rfl) : JE c W N sc k (.Call (.Name x p) (e :: es) [] pos) (mCall bs f mas) := by
  obtain ⟨ad, fd, ps, F1, F2, F3, F4⟩ := F.mono hj
  obtain ⟨ta, h1, h2⟩ := ha
  refine ⟨_, fun X h => ?_, i_call (f := f) h2⟩
  have F1' : FnOk X.prog X.w X.K X.mg X.base (L2.CX X.prog X.w) k ad fd ps (FSp c.K c.mg f) := by rw [h.prog, h.w, h.kk, h.mg, h.base]; exact F1
  exact pe_callS F1' h.room (gl_of h hg) (by rw [h.mg]; exact F2) (by rw [h.kk]; exact F3) (by rw [h.kk]; exact F4) (fun σ => passAt h.tk σ) (h1 X h) hdb (he _) (hpl _)
theorem pe_callS0 {X : Cx} {f : Addr} {fd : FuncData} {ps : List Str} {sp : Sp} {E : L2.St → XK} (F : FnOk X.prog X.w X.K X.mg X.base (L2.CX X.prog X.w) k f fd ps sp) (hr : Room k X.A) (hg : Gl X x) (hm : X.mg x = some (.ref f)) (hk : PySem.W.keepIn X.K (.ref f) = true) (hb : Binds X.K fd ps []) (hx : ∀ σ, PassesAt (L2.CX X.prog X.w) X σ (E σ))
    (hdb : (x == ("__debug__" : Str)) = false := by decide) : PE X (.Call (.Name x p) [] [] pos) (tCallS sp E tNil) := by
  refine ⟨fun pins s σ H Q I h => ?_⟩
  refine wpAny_Call_Name_kw (ld_glob I hg hm ?_ hdb)
  refine PySem.W.callWith_K0 I.kIn hk ?_
  exact run_fnS F hr hb (hx σ) I .nil h
/-- a built-in function, a built-in type -/
theorem j_cb {id : String} {r : Ct → List V → Hp → VK → Prop} {f : List D → Option Vx} (hc : ∀ X, Cok c W N sc k X → CallR X (.builtin id) (r c)) (hi : CbI c.K c.mg (r c) f) (hm : c.mg x = none) (ha : JA c W N sc k (e :: es) mas) (hv : bootBuiltins x = some (.builtin id) := by rfl) (hg : sc.names.lookup x = some .globalImplicit := by rfl)
    (hn : x ≠ "__name__" := by decide) (hdb : (x == ("__debug__" : Str)) = false := by decide) (he : ∀ env, starEach (e :: es) env = (false, eval e env) :: starEach es env := by intro _; rfl) (hpl : ∀ env, (backTo pos (starEach es env)).any (·.1) = false := by intro _; rfl) :
    JE c W N sc k (.Call (.Name x p) (e :: es) [] pos) (mCb f mas) := by
  obtain ⟨ta, h1, h2⟩ := ha
  exact ⟨_, fun X h => pe_callB (hc X h) (gl_of h hg) (by rw [h.mg]; exact hm) hv (h1 X h) hn hdb (he _) (hpl _), i_cb hi h2⟩
theorem j_cty {T : String} {r : Ct → List V → Hp → VK → Prop} {f : List D → Option Vx} (hc : ∀ X, Cok c W N sc k X → CallR X (.type T) (r c)) (hi : CbI c.K c.mg (r c) f) (hm : c.mg x = none) (ha : JA c W N sc k (e :: es) mas) (hv : bootBuiltins x = some (.type T) := by rfl) (hg : sc.names.lookup x = some .globalImplicit := by rfl)
    (hn : x ≠ "__name__" := by decide) (hdb : (x == ("__debug__" : Str)) = false := by decide) (he : ∀ env, starEach (e :: es) env = (false, eval e env) :: starEach es env := by intro _; rfl) (hpl : ∀ env, (backTo pos (starEach es env)).any (·.1) = false := by intro _; rfl) :
    JE c W N sc k (.Call (.Name x p) (e :: es) [] pos) (mCb f mas) := by
  obtain ⟨ta, h1, h2⟩ := ha
  exact ⟨_, fun X h => pe_callTy (hc X h) (gl_of h hg) (by rw [h.mg]; exact hm) hv (h1 X h) hn hdb (he _) (hpl _), i_cb hi h2⟩
end
end Fw
set_option Elab.async false
set_option linter.all false
set_option maxRecDepth 100000
set_option maxHeartbeats 2000000
/-! Fw16: the joined judgements: calls, methods, loops, comprehensions, statements, defs. -/
namespace Fw
open PySem PySem.Spec PyProof.Rows L2
section
variable {c : Ct} {W : WX} {N : List Str} {sc : Sx} {k : Nat} {pos pos' p apos cpos : Pos} {e a b d : Expr} {es : List Expr} {m ma mb md : Mo Vx} {mas : Mo (List Vx)} {x : Str}
theorem j_call0 {f : Fn} {j : Nat} (F : Cal c j x f) (hj : j ≤ k) (hg : sc.names.lookup x = some .globalImplicit := by rfl) (hdb : (x == ("__debug__" : Str)) = false := by decide) : JE c W N sc k (.Call (.Name x p) [] [] pos) (mCall [] f mNil) := by
  obtain ⟨ad, fd, ps, F1, F2, F3, F4⟩ := F.mono hj
  refine ⟨_, fun X h => ?_, i_call (f := f) i_nil⟩
  have F1' : FnOk X.prog X.w X.K X.mg X.base (L2.CX X.prog X.w) k ad fd ps (FSp c.K c.mg f) := by rw [h.prog, h.w, h.kk, h.mg, h.base]; exact F1
  exact pe_callS0 F1' h.room (gl_of h hg) (by rw [h.mg]; exact F2) (by rw [h.kk]; exact F3) (by rw [h.kk]; exact F4) (fun σ => passAt h.tk σ) hdb
/-! ### built-ins by name -/
theorem j_len (hm : c.mg ("len" : Str) = none) (ha : JA c W N sc k (e :: es) mas) (hg : sc.names.lookup ("len" : Str) = some .globalImplicit := by rfl) (he : ∀ env, starEach (e :: es) env = (false, eval e env) :: starEach es env := by intro _; rfl) (hpl : ∀ env, (backTo pos (starEach es env)).any (·.1) = false := by intro _; rfl) :
    JE c W N sc k (.Call (.Name "len" p) (e :: es) [] pos) (mCb dLen mas) := j_cb (r := fun c => rLenX c.K.K) (fun X h => by have := call_lenX (X := X); rw [h.kk] at this; exact this) c_len hm ha (hg := hg) (he := he) (hpl := hpl)
theorem j_abs (hm : c.mg ("abs" : Str) = none) (ha : JA c W N sc k (e :: es) mas) (hg : sc.names.lookup ("abs" : Str) = some .globalImplicit := by rfl) (he : ∀ env, starEach (e :: es) env = (false, eval e env) :: starEach es env := by intro _; rfl) (hpl : ∀ env, (backTo pos (starEach es env)).any (·.1) = false := by intro _; rfl) :
    JE c W N sc k (.Call (.Name "abs" p) (e :: es) [] pos) (mCb dAbs mas) := j_cb (r := fun c => rAbsX) (fun X h => call_absX) c_abs hm ha (hg := hg) (he := he) (hpl := hpl)
theorem j_all (hm : c.mg ("all" : Str) = none) (ha : JA c W N sc k (e :: es) mas) (hg : sc.names.lookup ("all" : Str) = some .globalImplicit := by rfl) (he : ∀ env, starEach (e :: es) env = (false, eval e env) :: starEach es env := by intro _; rfl) (hpl : ∀ env, (backTo pos (starEach es env)).any (·.1) = false := by intro _; rfl) :
    JE c W N sc k (.Call (.Name "all" p) (e :: es) [] pos) (mCb dAll mas) := j_cb (r := fun c => rAll c.K.K) (fun X h => by have := cr_all (X := X) h.calm; rw [h.kk] at this; exact this) c_all hm ha (hg := hg) (he := he) (hpl := hpl)
theorem j_any (hm : c.mg ("any" : Str) = none) (ha : JA c W N sc k (e :: es) mas) (hg : sc.names.lookup ("any" : Str) = some .globalImplicit := by rfl) (he : ∀ env, starEach (e :: es) env = (false, eval e env) :: starEach es env := by intro _; rfl) (hpl : ∀ env, (backTo pos (starEach es env)).any (·.1) = false := by intro _; rfl) :
    JE c W N sc k (.Call (.Name "any" p) (e :: es) [] pos) (mCb dAny mas) := j_cb (r := fun c => rAny c.K.K) (fun X h => by have := cr_any (X := X) h.calm; rw [h.kk] at this; exact this) c_any hm ha (hg := hg) (he := he) (hpl := hpl)
theorem j_sum (hm : c.mg ("sum" : Str) = none) (ha : JA c W N sc k (e :: es) mas) (hg : sc.names.lookup ("sum" : Str) = some .globalImplicit := by rfl) (he : ∀ env, starEach (e :: es) env = (false, eval e env) :: starEach es env := by intro _; rfl) (hpl : ∀ env, (backTo pos (starEach es env)).any (·.1) = false := by intro _; rfl) :
    JE c W N sc k (.Call (.Name "sum" p) (e :: es) [] pos) (mCb dSum mas) := j_cb (r := fun c => rSum c.K.K) (fun X h => by have := cr_sum (X := X) h.calm; rw [h.kk] at this; exact this) c_sum hm ha (hg := hg) (he := he) (hpl := hpl)
theorem j_max (hm : c.mg ("max" : Str) = none) (ha : JA c W N sc k (e :: es) mas) (hg : sc.names.lookup ("max" : Str) = some .globalImplicit := by rfl) (he : ∀ env, starEach (e :: es) env = (false, eval e env) :: starEach es env := by intro _; rfl) (hpl : ∀ env, (backTo pos (starEach es env)).any (·.1) = false := by intro _; rfl) :
    JE c W N sc k (.Call (.Name "max" p) (e :: es) [] pos) (mCb dMax mas) := j_cb (r := fun c => rMaxX c.K.K) (fun X h => by have := call_maxX (X := X) h.calm; rw [h.kk] at this; exact this) c_max hm ha (hg := hg) (he := he) (hpl := hpl)
theorem j_min (hm : c.mg ("min" : Str) = none) (ha : JA c W N sc k (e :: es) mas) (hg : sc.names.lookup ("min" : Str) = some .globalImplicit := by rfl) (he : ∀ env, starEach (e :: es) env = (false, eval e env) :: starEach es env := by intro _; rfl) (hpl : ∀ env, (backTo pos (starEach es env)).any (·.1) = false := by intro _; rfl) :
    JE c W N sc k (.Call (.Name "min" p) (e :: es) [] pos) (mCb dMin mas) := j_cb (r := fun c => rMinX c.K.K) (fun X h => by have := call_minX (X := X) h.calm; rw [h.kk] at this; exact this) c_min hm ha (hg := hg) (he := he) (hpl := hpl)
theorem j_sorted (hm : c.mg ("sorted" : Str) = none) (ha : JA c W N sc k (e :: es) mas) (hg : sc.names.lookup ("sorted" : Str) = some .globalImplicit := by rfl) (he : ∀ env, starEach (e :: es) env = (false, eval e env) :: starEach es env := by intro _; rfl) (hpl : ∀ env, (backTo pos (starEach es env)).any (·.1) = false := by intro _; rfl) :
    JE c W N sc k (.Call (.Name "sorted" p) (e :: es) [] pos) (mCb dSorted mas) := j_cb (r := fun c => rSortX c.K.K) (fun X h => by have := cr_sortedX (X := X) h.calm h.un; rw [h.kk] at this; exact this) c_sorted hm ha (hg := hg) (he := he) (hpl := hpl)
theorem j_list (hm : c.mg ("list" : Str) = none) (ha : JA c W N sc k (e :: es) mas) (hg : sc.names.lookup ("list" : Str) = some .globalImplicit := by rfl) (he : ∀ env, starEach (e :: es) env = (false, eval e env) :: starEach es env := by intro _; rfl) (hpl : ∀ env, (backTo pos (starEach es env)).any (·.1) = false := by intro _; rfl) :
    JE c W N sc k (.Call (.Name "list" p) (e :: es) [] pos) (mCb dList mas) := j_cty (r := fun c => rListX c.K.K) (fun X h => by have := call_listX (X := X) h.calm; rw [h.kk] at this; exact this) c_list hm ha (hg := hg) (he := he) (hpl := hpl)
theorem j_tuple (hm : c.mg ("tuple" : Str) = none) (ha : JA c W N sc k (e :: es) mas) (hg : sc.names.lookup ("tuple" : Str) = some .globalImplicit := by rfl) (he : ∀ env, starEach (e :: es) env = (false, eval e env) :: starEach es env := by intro _; rfl) (hpl : ∀ env, (backTo pos (starEach es env)).any (·.1) = false := by intro _; rfl) :
    JE c W N sc k (.Call (.Name "tuple" p) (e :: es) [] pos) (mCb dTup mas) := j_cty (r := fun c => rTupE c.K.K) (fun X h => by have := call_tupE (X := X); rw [h.kk] at this; exact this) c_tup hm ha (hg := hg) (he := he) (hpl := hpl)
theorem j_strT (hm : c.mg ("str" : Str) = none) (ha : JA c W N sc k (e :: es) mas) (hg : sc.names.lookup ("str" : Str) = some .globalImplicit := by rfl) (he : ∀ env, starEach (e :: es) env = (false, eval e env) :: starEach es env := by intro _; rfl) (hpl : ∀ env, (backTo pos (starEach es env)).any (·.1) = false := by intro _; rfl) :
    JE c W N sc k (.Call (.Name "str" p) (e :: es) [] pos) (mCb dStr mas) := j_cty (r := fun c => rStrX) (fun X h => call_strX) c_str hm ha (hg := hg) (he := he) (hpl := hpl)
theorem j_intT (hm : c.mg ("int" : Str) = none) (ha : JA c W N sc k (e :: es) mas) (hg : sc.names.lookup ("int" : Str) = some .globalImplicit := by rfl) (he : ∀ env, starEach (e :: es) env = (false, eval e env) :: starEach es env := by intro _; rfl) (hpl : ∀ env, (backTo pos (starEach es env)).any (·.1) = false := by intro _; rfl) :
    JE c W N sc k (.Call (.Name "int" p) (e :: es) [] pos) (mCb dInt mas) := j_cty (r := fun c => rIntX) (fun X h => call_intX) c_int hm ha (hg := hg) (he := he) (hpl := hpl)
/-- isinstance(e, T) -/
theorem j_isi {n : String} {y : Str} {p2 : Pos} (hm : c.mg ("isinstance" : Str) = none) (hy : c.mg y = none) (ha : JE c W N sc k e m) (hb : bootBuiltins y = some (.type n) := by rfl) (hg : sc.names.lookup ("isinstance" : Str) = some .globalImplicit := by rfl) (hg2 : sc.names.lookup y = some .globalImplicit := by rfl)
    (hn : y ≠ "__name__" := by decide) (hdb : (y == ("__debug__" : Str)) = false := by decide)
    (he : ∀ env, starEach [e, .Name y p2] env = (false, eval e env) :: starEach [.Name y p2] env := by intro _; rfl) : JE c W N sc k (.Call (.Name "isinstance" p) [e, .Name y p2] [] pos) (mUn (isiT n) m) := by
  obtain ⟨ta, h1, h2⟩ := ha
  refine ⟨tCB (rIsi c.K.K) (tCons ta (tCons (tC (.ty n)) tNil)), fun X h => ?_, i_isi h2⟩
  have := pe_callB (X := X) (p := p) (pos := pos) call_isi (gl_of h hg) (by rw [h.mg]; exact hm) (by rfl) (pa_cons (h1 X h) (pa_cons (pe_bltn (v := .ty n) (pos := p2) (gl_of h hg2) (by rw [h.mg]; exact hy) hb rfl hn hdb) pa_nil (by rfl)) (he _)) (by decide) (by decide) (he _) (by rfl)
  rw [h.kk] at this
  exact this
/-! ### methods -/
theorem j_mt {T id : String} {name : Str} {r : Ct → V → List V → Hp → VK → Prop} {f : D → List D → Option Vx} (h4 : T = "list" ∨ T = "tuple" ∨ T = "dict" ∨ T = "str") (pa : PlainAttrs T) (slot : Slot T name id) (hty : typeOf (.builtin id) = pure (.type "method_descriptor")) (hmt : ∀ X, Cok c W N sc k X → MtR X id (r c)) (hi : MtI c.K c.mg (r c) f)
    (ho : JE c W N sc k a ma) (ha : JA c W N sc k (e :: es) mas)
    (hbase : ∀ env, attributeBase a name env (eval a env) = eval a env := by intro _; rfl)
    (hfew : ∀ env, ((backTo cpos (starEach (e :: es) env)).all (fun x => !x.1) && (backToKw cpos (keywordEach [] env)).all (fun x => x.1.isSome)
      && decide ((e :: es).length + ([] : List Keyword).length + (if ([] : List Keyword).isEmpty then 0 else 1) < 30)) = true := by intro _; rfl)
    (hline : (apos.endLine == cpos.line) = true := by rfl) (hs : ∀ env, starEach (e :: es) env = (false, eval e env) :: starEach es env := by intro _; rfl) (hplain : ∀ env, (backTo cpos (starEach es env)).any (·.1) = false := by intro _; rfl) :
    JE c W N sc k (.Call (.Attribute a name apos) (e :: es) [] cpos) (mMt T f ma mas) := by
  obtain ⟨ta, h1, h2⟩ := ho
  obtain ⟨tb, h3, h5⟩ := ha
  exact ⟨tMW c.K.K T (r c) ta tb, fun X h => by have := pe_mw (X := X) pa slot hty (hmt X h) (h1 X h) (h3 X h) (hbase _) (hfew _) hline (hs _) (hplain _); rw [h.kk] at this; exact this, i_mt h4 hi h2 h5⟩
/-- a method that changes the object in the slot i -/
theorem j_mut {T id : String} {name : Str} {r : Ct → V → List V → Hp → VK → Prop} {f : D → List D → Option (D × D)} (i : Nat) (h4 : T = "list" ∨ T = "tuple" ∨ T = "dict" ∨ T = "str") (pa : PlainAttrs T) (slot : Slot T name id) (hty : typeOf (.builtin id) = pure (.type "method_descriptor")) (hmt : ∀ X, Cok c W N sc k X → MtR X id (r c)) (hi : MuI c.K c.mg (r c) f)
    (ha : JA c W N sc k (e :: es) mas) (hN : N[i]? = some x := by rfl) (hv : sc.names.lookup x = some .local ∨ sc.names.lookup x = some .cell ∨ sc.names.lookup x = some .free := by first | exact Or.inl rfl | exact Or.inr (Or.inl rfl) | exact Or.inr (Or.inr rfl))
    (hd : (x == ("__debug__" : Str)) = false := by decide) (hcd : (x == ("__classdict__" : Str)) = false := by decide)
    (hbase : ∀ env, attributeBase (.Name x p) name env (eval (.Name x p) env) = eval (.Name x p) env := by intro _; rfl)
    (hfew : ∀ env, ((backTo cpos (starEach (e :: es) env)).all (fun x => !x.1) && (backToKw cpos (keywordEach [] env)).all (fun x => x.1.isSome)
      && decide ((e :: es).length + ([] : List Keyword).length + (if ([] : List Keyword).isEmpty then 0 else 1) < 30)) = true := by intro _; rfl)
    (hline : (apos.endLine == cpos.line) = true := by rfl) (hs : ∀ env, starEach (e :: es) env = (false, eval e env) :: starEach es env := by intro _; rfl) (hplain : ∀ env, (backTo cpos (starEach es env)).any (·.1) = false := by intro _; rfl) :
    JE c W N sc k (.Call (.Attribute (.Name x p) name apos) (e :: es) [] cpos) (mMut T i f mas) := by
  obtain ⟨tb, h3, h5⟩ := ha
  exact ⟨tMW c.K.K T (r c) (tVar i) tb, fun X h => by have := pe_mw (X := X) pa slot hty (hmt X h) (pe_var (pos := p) (by rw [h.nn]; exact hN) (by unfold Vis; rw [h.scp]; exact hv) hd hcd) (h3 X h) (hbase _) (hfew _) hline (hs _) (hplain _); rw [h.kk] at this; exact this, i_mut h4 hi h5⟩
theorem j_mut0 {T id : String} {name : Str} {r : Ct → V → List V → Hp → VK → Prop} {f : D → List D → Option (D × D)} (i : Nat) (h4 : T = "list" ∨ T = "tuple" ∨ T = "dict" ∨ T = "str") (pa : PlainAttrs T) (slot : Slot T name id) (hty : typeOf (.builtin id) = pure (.type "method_descriptor")) (hmt : ∀ X, Cok c W N sc k X → MtR X id (r c)) (hi : MuI c.K c.mg (r c) f)
    (hN : N[i]? = some x := by rfl) (hv : sc.names.lookup x = some .local ∨ sc.names.lookup x = some .cell ∨ sc.names.lookup x = some .free := by first | exact Or.inl rfl | exact Or.inr (Or.inl rfl) | exact Or.inr (Or.inr rfl))
    (hd : (x == ("__debug__" : Str)) = false := by decide) (hcd : (x == ("__classdict__" : Str)) = false := by decide)
    (hbase : ∀ env, attributeBase (.Name x p) name env (eval (.Name x p) env) = eval (.Name x p) env := by intro _; rfl) (hline : (apos.endLine == cpos.line) = true := by rfl) :
    JE c W N sc k (.Call (.Attribute (.Name x p) name apos) [] [] cpos) (mMut T i f mNil) :=
  ⟨tMW c.K.K T (r c) (tVar i) tNil, fun X h => by have := pe_mw0 (X := X) pa slot hty (hmt X h) (pe_var (pos := p) (by rw [h.nn]; exact hN) (by unfold Vis; rw [h.scp]; exact hv) hd hcd) (hbase _) hline; rw [h.kk] at this; exact this, i_mut h4 hi i_nil⟩
/-! ### what is walked -/
theorem ji_any {tg : Expr} (ha : JE c W N sc k a ma) : JI c W N sc k false tg a (mIt ma) := by
  obtain ⟨ta, h1, h2⟩ := ha
  exact ⟨iAny c.K.K ta, fun X h => by have := pi_any (X := X) (tg := tg) (h1 X h); rw [h.kk] at this; exact this, ii_any h2⟩
theorem ji_rng1 {tg : Expr} (hm : c.mg ("range" : Str) = none) (ha : JA c W N sc k [a] mas) (hg : sc.names.lookup ("range" : Str) = some .globalImplicit := by rfl) (hs : ∀ env, starEach [a] env = [(false, eval a env)] := by intro _; rfl) : JI c W N sc k false tg (.Call (.Name "range" p) [a] [] pos) (mRng1 mas) := by
  obtain ⟨ta, h1, h2⟩ := ha
  exact ⟨_, fun X h => pi_range1 (gl_of h hg) (by rw [h.mg]; exact hm) (h1 X h) (hs _), ii_rng1 h2⟩
theorem ji_rng2 {tg : Expr} (hm : c.mg ("range" : Str) = none) (ha : JA c W N sc k [a, b] mas) (hg : sc.names.lookup ("range" : Str) = some .globalImplicit := by rfl) (hs : ∀ env, starEach [a, b] env = [(false, eval a env), (false, eval b env)] := by intro _; rfl) (hs2 : ∀ env, starEach [b] env = [(false, eval b env)] := by intro _; rfl) :
    JI c W N sc k false tg (.Call (.Name "range" p) [a, b] [] pos) (mRng2 mas) := by
  obtain ⟨ta, h1, h2⟩ := ha
  exact ⟨_, fun X h => pi_range2 (gl_of h hg) (by rw [h.mg]; exact hm) (h1 X h) (hs _) (hs2 _), ii_rng2 h2⟩
theorem ji_zip {elts : List Expr} {kk : Nat} {tpos : Pos} (hm : c.mg ("zip" : Str) = none) (ha : JE c W N sc k a ma) (hb : JE c W N sc k b mb) (hg : sc.names.lookup ("zip" : Str) = some .globalImplicit := by rfl) (hs : ∀ env, starEach [a, b] env = (false, eval a env) :: starEach [b] env := by intro _; rfl)
    (hs2 : ∀ env, starEach [b] env = (false, eval b env) :: starEach [] env := by intro _; rfl) (hpl : ∀ env, (backTo pos (starEach [b] env)).any (·.1) = false := by intro _; rfl) : JI c W N sc k true (.Tuple elts kk tpos) (.Call (.Name "zip" p) [a, b] [] pos) (mZip ma mb) := by
  obtain ⟨ta, h1, h2⟩ := ha
  obtain ⟨tb, h3, h4⟩ := hb
  exact ⟨iZ2 c.K.K (tCons ta (tCons tb tNil)), fun X h => by have := pi_z2 (X := X) (p := p) (pos := pos) (tpos := tpos) (elts := elts) (kk := kk) (gl_of h hg) (by rw [h.mg]; exact hm) (pa_cons (h1 X h) (pa_cons (h3 X h) pa_nil (hs2 _)) (hs _)) (hs _) (hpl _); rw [h.kk] at this; exact this, ii_zip h2 h4⟩
theorem ji_enum {elts : List Expr} {kk : Nat} {tpos : Pos} (hm : c.mg ("enumerate" : Str) = none) (ha : JE c W N sc k a ma) (hg : sc.names.lookup ("enumerate" : Str) = some .globalImplicit := by rfl) (hs : ∀ env, starEach [a] env = (false, eval a env) :: starEach [] env := by intro _; rfl) : JI c W N sc k true (.Tuple elts kk tpos) (.Call (.Name "enumerate" p) [a] [] pos) (mEnum ma) := by
  obtain ⟨ta, h1, h2⟩ := ha
  exact ⟨iE1 c.K.K (tCons ta tNil), fun X h => by have := pi_e1 (X := X) (p := p) (pos := pos) (tpos := tpos) (elts := elts) (kk := kk) (gl_of h hg) (by rw [h.mg]; exact hm) (pa_cons (h1 X h) pa_nil (hs _)) (hs _); rw [h.kk] at this; exact this, ii_enum h2⟩
/-! ### targets -/
theorem fn_of2 {X : Cx} (h : Cok c W N sc k X) (hf : sc.fc x = true ∨ sc.names.lookup x = some .local) : X.fn x = true ∨ X.env.scope.names.lookup x = some .local := by
  rcases hf with hf | hf
  · exact .inl (h.fn x hf)
  · exact .inr (by rw [h.scp]; exact hf)
theorem pg_of {X : Cx} (h : Cok c W N sc k X) (i : Nat) (nd : N.Nodup) (hN : N[i]? = some x) (hx : sc.names.lookup x = some .local ∨ sc.names.lookup x = some .cell) (hf : sc.fc x = true ∨ sc.names.lookup x = some .local) : PG X (.Name x pos) (gName i) :=
  pg_name (by rw [h.nn]; exact nd) (by rw [h.nn]; exact hN) (by unfold L2.Loc; rw [h.scp]; exact hx) (fn_of2 h hf)
theorem jg_name (i : Nat) (nd : N.Nodup) (hN : N[i]? = some x := by rfl) (hx : sc.names.lookup x = some .local ∨ sc.names.lookup x = some .cell := by first | exact Or.inl rfl | exact Or.inr rfl) (hf : sc.fc x = true ∨ sc.names.lookup x = some .local := by first | exact Or.inl rfl | exact Or.inr rfl) : JG c W N sc k (.Name x pos) (gNm i) :=
  ⟨_, fun X h => pg_of h i nd hN hx hf, ig_name⟩
theorem jgs_nil : JGs c W N sc k [] gNl := ⟨_, fun X h => pgs_nil, igs_nil⟩
theorem jgs_cons {g : D → En → Option En} {gs : List D → En → Option En} (ha : JG c W N sc k a g) (hr : JGs c W N sc k es gs) (hs : ∀ env, (assignEach (a :: es) env).map (·.2) = assign a env :: (assignEach es env).map (·.2) := by intro _; rfl) : JGs c W N sc k (a :: es) (gCn g gs) := by
  obtain ⟨t1, h1, h2⟩ := ha
  obtain ⟨t2, h3, h4⟩ := hr
  exact ⟨_, fun X h => pgs_cons (h1 X h) (h3 X h) (hs _), igs_cons h2 h4⟩
theorem sw_congr {ts : List Expr} {v : Expr} {env env' : Env} (h : env.scope = env'.scope) : swappedStores ts v env = swappedStores ts v env' := by
  unfold swappedStores Env.blockKind Env.kindOf
  rw [h]
theorem swp_congr {t : Option Expr} {v : Expr} {l : Nat} {env env' : Env} (h : env.scope = env'.scope) : swapsWith v t l env = swapsWith v t l env' := by
  unfold swapsWith Env.blockKind Env.kindOf
  rw [h]
theorem sws_congr {ts : List Expr} {v : Expr} {l : Nat} {env env' : Env} (h : env.scope = env'.scope) : swapsWithSole ts v l env = swapsWithSole ts v l env' := by
  unfold swapsWithSole
  split
  · exact swp_congr h
  · rfl
/-- some environment of that scope -/
abbrev dEnv (sc : Scope) : Env := envOfC "" sc 0 0 .none
theorem rl_congr {scope : Scope} {env env' : Env} (h : env.scope = env'.scope) : relabel scope env = relabel scope env' := by
  unfold relabel Env.kindOf
  rw [h]
/-- a def's scope, a comprehension's within one -/
abbrev sxD (scope : Scope) : Sx := ⟨scope, fun _ => true⟩
abbrev sxB (sc : Sx) (scope : Scope) : Sx := ⟨relabel scope (dEnv sc.toScope), fun x => scope.names.lookup x == some .cell⟩
theorem dEnv_of {X : Cx} (h : Cok c W N sc k X) : X.env.scope = (dEnv sc.toScope).scope := h.scp
theorem jg_tup {kk n : Nat} {gs : List D → En → Option En} (hr : JGs c W N sc k es gs) (hn : ∀ env, (assignEach es env).length = n := by intro _; rfl) (hst : ∀ env, (assignEach es env).findIdx? (·.1) = none := by intro _; rfl) : JG c W N sc k (.Tuple es kk pos) (gTpN n gs) := by
  obtain ⟨t1, h1, h2⟩ := hr
  exact ⟨gTup c.K.K n t1, fun X h => by have := pg_tup (X := X) (k := kk) (pos := pos) h.calm (h1 X h) (hn _) (hst _); rw [h.kk] at this; exact this, ig_tup h2⟩
theorem jgt (h : JG c W N sc k a g) : JGt c W N sc k false a g := h
theorem jgt_tup {kk n : Nat} {gs : List D → En → Option En} (hr : JGs c W N sc k es gs) (hn : ∀ env, (assignEach es env).length = n := by intro _; rfl) (hst : ∀ env, (assignEach es env).findIdx? (·.1) = none := by intro _; rfl) : JGt c W N sc k true (.Tuple es kk pos) (gTpN n gs) := by
  obtain ⟨t1, h1, h2⟩ := hr
  exact ⟨gTup c.K.K n t1, fun X h => by have := pg_tup (X := X) (k := kk) (pos := pos) h.calm (h1 X h) (hn _) (hst _); rw [h.kk] at this; exact this, igt_tup h2⟩
theorem jc_name {vs : List Nat} (i : Nat) (nd : N.Nodup) (hi : i ∈ vs := by decide) (hN : N[i]? = some x := by rfl) (hx : sc.names.lookup x = some .local ∨ sc.names.lookup x = some .cell := by first | exact Or.inl rfl | exact Or.inr rfl) (hf : sc.fc x = true ∨ sc.names.lookup x = some .local := by first | exact Or.inl rfl | exact Or.inr rfl) : JC c W N sc k vs (.Name x pos) (gNm i) :=
  ⟨_, fun X h => pg_of h i nd hN hx hf, ic_name hi⟩
theorem jcs_nil {vs : List Nat} : JCs c W N sc k vs [] gNl := ⟨_, fun X h => pgs_nil, ics_nil⟩
theorem jcs_cons {vs : List Nat} {g : D → En → Option En} {gs : List D → En → Option En} (ha : JC c W N sc k vs a g) (hr : JCs c W N sc k vs es gs) (hs : ∀ env, (assignEach (a :: es) env).map (·.2) = assign a env :: (assignEach es env).map (·.2) := by intro _; rfl) : JCs c W N sc k vs (a :: es) (gCn g gs) := by
  obtain ⟨t1, h1, h2⟩ := ha
  obtain ⟨t2, h3, h4⟩ := hr
  exact ⟨_, fun X h => pgs_cons (h1 X h) (h3 X h) (hs _), ics_cons h2 h4⟩
theorem jc_tup {vs : List Nat} {kk n : Nat} {gs : List D → En → Option En} (hr : JCs c W N sc k vs es gs) (hn : ∀ env, (assignEach es env).length = n := by intro _; rfl) (hst : ∀ env, (assignEach es env).findIdx? (·.1) = none := by intro _; rfl) : JC c W N sc k vs (.Tuple es kk pos) (gTpN n gs) := by
  obtain ⟨t1, h1, h2⟩ := hr
  exact ⟨gTup c.K.K n t1, fun X h => by have := pg_tup (X := X) (k := kk) (pos := pos) h.calm (h1 X h) (hn _) (hst _); rw [h.kk] at this; exact this, ic_tup h2⟩
theorem jct {vs : List Nat} (h : JC c W N sc k vs a g) : JCt c W N sc k false vs a g := h
theorem jct_tup {vs : List Nat} {kk n : Nat} {gs : List D → En → Option En} (hr : JCs c W N sc k vs es gs) (hn : ∀ env, (assignEach es env).length = n := by intro _; rfl) (hst : ∀ env, (assignEach es env).findIdx? (·.1) = none := by intro _; rfl) : JCt c W N sc k true vs (.Tuple es kk pos) (gTpN n gs) := by
  obtain ⟨t1, h1, h2⟩ := hr
  exact ⟨gTup c.K.K n t1, fun X h => by have := pg_tup (X := X) (k := kk) (pos := pos) h.calm (h1 X h) (hn _) (hst _); rw [h.kk] at this; exact this, ict_tup h2⟩
/-! ### comprehensions -/
theorem blk_cok {X : Cx} (h : Cok c W N sc k X) (s : Shared) (H : Hp) (scope : Scope) (cl : List (Str × Addr)) (C : Addr) (fp : List Addr) : Cok c W0 N (sxB sc scope) k (X.blk s H scope (compEnvC scope cl C X.env) fp) where
  prog := h.prog
  w := h.w
  kk := h.kk
  mg := h.mg
  base := h.base
  nn := h.nn
  scp := rl_congr (dEnv_of h)
  calm := h.calm
  room := h.room
  tk := takes0
  pass := PassesOwn.never
  fn := fun x hx => hx
theorem jts_nil : JTs c W N sc k [] (mRet true) := ⟨_, fun X h => pts_nil, fun P G H e σ Q r h => h G H true r (Sub.refl _) (Shp.refl _) rfl⟩
theorem jts_one {t : Mo Bool} (ha : JT c W N sc k a t) : JTs c W N sc k [a] t := by
  obtain ⟨ta, h1, h2⟩ := ha
  exact ⟨_, fun X h => pts_one (h1 X h), h2⟩
theorem j_lc {raw : Bool} {tg iter : Expr} {ifs : List Expr} {scope : Scope} (own : List (Str × Nat)) {g : D → En → Option En} {mi : Mo (List D)} {mt : Mo Bool} (nd : N.Nodup) (hi : JI c W N sc k raw tg iter mi) (hg : JCt c W0 N (sxB sc scope) k raw (own.map (·.2)) tg g) (ht : JTs c W0 N (sxB sc scope) k ifs mt) (he : JE c W0 N (sxB sc scope) k e m)
    (ok : blkC N sc.toScope scope own = true := by decide +kernel) (hs : ∀ env x, foldedSetIterable iter env x = pure x := by intro _ _; rfl) : JE c W N sc k (.ListComp e [⟨tg, iter, ifs, 0⟩] scope pos) (mLc (own.map (·.2)) g mi mt m) := by
  obtain ⟨wi, h1, h2⟩ := hi
  obtain ⟨tg', h3, h4⟩ := hg
  obtain ⟨tt, h5, h6⟩ := ht
  obtain ⟨te, h7, h8⟩ := he
  exact ⟨_, fun X h => pe_lc (own := own) h.calm (by rw [h.nn]; exact nd) (h1 X h) (by rw [h.nn, h.scp]; exact blkOk_by ok) (fun s H C cl fp => h3 _ (blk_cok h ..)) (fun s H C cl fp => h5 _ (blk_cok h ..)) (fun s H C cl fp => h7 _ (blk_cok h ..)) (hs _), i_lc h2 h4 h6 h8⟩
/-! ### statements -/
theorem js_expr (ha : JE c W N sc k a ma) (hs : ∀ env, swapsWith a none pos.line env = pure false := by intro _; rfl) : JS c W N sc k (.Expr a pos) (sDrop ma) := by
  obtain ⟨ta, h1, h2⟩ := ha
  exact ⟨_, fun X h => ps_expr (h1 X h) (hs _), is_drop h2⟩
theorem js_ret (ha : JE c W N sc k a ma) : JS c W N sc k (.Return (some a) pos) (sRet ma) := by
  obtain ⟨ta, h1, h2⟩ := ha
  exact ⟨_, fun X h => ps_ret (h1 X h), is_ret h2⟩
theorem js_retN : JS c W N sc k (.Return none pos) sRetN := ⟨_, fun X h => ps_retN, is_retN⟩
theorem js_pass : JS c W N sc k (.Pass pos) sSkip := ⟨_, fun X h => ps_pass, is_skip⟩
theorem js_brk : JS c W N sc k (.Break pos) sBrk := ⟨_, fun X h => ps_break, is_brk⟩
theorem js_cnt : JS c W N sc k (.Continue pos) sCnt := ⟨_, fun X h => ps_continue, is_cnt⟩
theorem js_never {st : Stmt} : JS c W N sc k st sNever := ⟨_, fun X h => ps_never, is_never⟩
theorem js_set (i : Nat) (nd : N.Nodup) (ha : JE c W N sc k a ma) (hs : swapsWith a (some (.Name x pos')) pos.line (dEnv sc.toScope) = pure false := by rfl) (hN : N[i]? = some x := by rfl) (hx : sc.names.lookup x = some .local ∨ sc.names.lookup x = some .cell := by first | exact Or.inl rfl | exact Or.inr rfl) (hf : sc.fc x = true ∨ sc.names.lookup x = some .local := by first | exact Or.inl rfl | exact Or.inr rfl) : JS c W N sc k (.Assign [.Name x pos'] a pos) (sSet i ma) := by
  obtain ⟨ta, h1, h2⟩ := ha
  exact ⟨_, fun X h => ps_set (by rw [h.nn]; exact nd) (by rw [h.nn]; exact hN) (by unfold L2.Loc; rw [h.scp]; exact hx) (h1 X h) ((swp_congr (dEnv_of h)).trans hs) (fn_of2 h hf), is_set h2⟩
/-- name = [..], stored within the comprehension's frame -/
theorem js_setLc (i : Nat) {raw : Bool} {tg iter : Expr} {ifs : List Expr} {scope : Scope} (own : List (Str × Nat)) {g : D → En → Option En} {mi : Mo (List D)} {mt : Mo Bool} (nd : N.Nodup) (hi : JI c W N sc k raw tg iter mi) (hg : JCt c W0 N (sxB sc scope) k raw (own.map (·.2)) tg g) (ht : JTs c W0 N (sxB sc scope) k ifs mt) (he : JE c W0 N (sxB sc scope) k e m)
    (hsw : swapsWith (.ListComp e [⟨tg, iter, ifs, 0⟩] scope p) (some (.Name x pos')) pos.line (dEnv sc.toScope) = pure true := by rfl) (hN : N[i]? = some x := by rfl) (hx : sc.names.lookup x = some .local := by rfl) (ok : blkC N sc.toScope scope own = true := by decide +kernel) (hs : ∀ env x, foldedSetIterable iter env x = pure x := by intro _ _; rfl) :
    JS c W N sc k (.Assign [.Name x pos'] (.ListComp e [⟨tg, iter, ifs, 0⟩] scope p) pos) (sSet i (mLc (own.map (·.2)) g mi mt m)) := by
  obtain ⟨wi, h1, h2⟩ := hi
  obtain ⟨tg', h3, h4⟩ := hg
  obtain ⟨tt, h5, h6⟩ := ht
  obtain ⟨te, h7, h8⟩ := he
  exact ⟨_, fun X h => ps_setLc (own := own) h.calm (by rw [h.nn]; exact nd) (by rw [h.nn]; exact hN) (by rw [h.scp]; exact hx) ((swp_congr (dEnv_of h)).trans hsw) (h1 X h) (by rw [h.nn, h.scp]; exact blkOk_by ok) (fun s H C cl fp => h3 _ (blk_cok h ..)) (fun s H C cl fp => h5 _ (blk_cok h ..)) (fun s H C cl fp => h7 _ (blk_cok h ..)) (hs _), is_set (i_lc h2 h4 h6 h8)⟩
/-- target = e -/
theorem js_get {tg : Expr} {gm : D → En → Option En} (ha : JE c W N sc k a ma) (hg : JG c W N sc k tg gm) (hs : swapsWithSole [tg] a pos.line (dEnv sc.toScope) = pure false := by rfl) (hw : swappedStores [tg] a (dEnv sc.toScope) = pure none := by rfl) (h1 : ∀ env, (assignEach [tg] env).map (·.2) = [assign tg env] := by intro _; rfl) :
    JS c W N sc k (.Assign [tg] a pos) (sGet gm ma) := by
  obtain ⟨ta, g1, g2⟩ := ha
  obtain ⟨tg', g3, g4⟩ := hg
  exact ⟨_, fun X h => ps_asg (g1 X h) (g3 X h) ((sws_congr (dEnv_of h)).trans hs) ((sw_congr (dEnv_of h)).trans hw) (h1 _), is_get g2 g4⟩
/-- a, b = x, y; a, b, c = x, y, z -/
theorem js_par {y : Str} {px py pt pt2 : Pos} {kt k2 : Nat} (i j : Nat) (nd : N.Nodup) (ha : JA c W N sc k [a, b] mas) (hij : i ≠ j := by decide) (hw : swappedStores [.Tuple [.Name x px, .Name y py] kt pt] (.Tuple [a, b] k2 pt2) (dEnv sc.toScope) = pure (some [x, y]) := by rfl)
    (hs : swapsWithSole [.Tuple [.Name x px, .Name y py] kt pt] (.Tuple [a, b] k2 pt2) pos.line (dEnv sc.toScope) = pure false := by rfl) (hN : N[i]? = some x := by rfl) (hN2 : N[j]? = some y := by rfl) (hx : sc.names.lookup x = some .local := by rfl) (hy : sc.names.lookup y = some .local := by rfl) :
    JS c W N sc k (.Assign [.Tuple [.Name x px, .Name y py] kt pt] (.Tuple [a, b] k2 pt2) pos) (sPar [i, j] mas) := by
  obtain ⟨ta, h1, h2⟩ := ha
  exact ⟨_, fun X h => ps_par h.calm (by rw [h.nn]; exact nd) (by rw [h.nn]; exact hN) (by rw [h.nn]; exact hN2) hij (by rw [h.scp]; exact hx) (by rw [h.scp]; exact hy) (h1 X h) ((sw_congr (dEnv_of h)).trans hw) ((sws_congr (dEnv_of h)).trans hs), is_par h2⟩
theorem js_par3 {y z : Str} {px py pz pt pt2 : Pos} {kt k2 : Nat} (i j l : Nat) (nd : N.Nodup) (ha : JA c W N sc k [a, b, d] mas) (hij : i ≠ j := by decide) (hil : i ≠ l := by decide) (hjl : j ≠ l := by decide) (hw : swappedStores [.Tuple [.Name x px, .Name y py, .Name z pz] kt pt] (.Tuple [a, b, d] k2 pt2) (dEnv sc.toScope) = pure (some [x, y, z]) := by rfl)
    (hs : swapsWithSole [.Tuple [.Name x px, .Name y py, .Name z pz] kt pt] (.Tuple [a, b, d] k2 pt2) pos.line (dEnv sc.toScope) = pure false := by rfl) (hN : N[i]? = some x := by rfl) (hN2 : N[j]? = some y := by rfl) (hN3 : N[l]? = some z := by rfl) (hx : sc.names.lookup x = some .local := by rfl) (hy : sc.names.lookup y = some .local := by rfl) (hz : sc.names.lookup z = some .local := by rfl) :
    JS c W N sc k (.Assign [.Tuple [.Name x px, .Name y py, .Name z pz] kt pt] (.Tuple [a, b, d] k2 pt2) pos) (sPar [i, j, l] mas) := by
  obtain ⟨ta, h1, h2⟩ := ha
  exact ⟨_, fun X h => ps_par3 h.calm (by rw [h.nn]; exact nd) (by rw [h.nn]; exact hN) (by rw [h.nn]; exact hN2) (by rw [h.nn]; exact hN3) hij hil hjl (by rw [h.scp]; exact hx) (by rw [h.scp]; exact hy) (by rw [h.scp]; exact hz) (h1 X h) ((sw_congr (dEnv_of h)).trans hw) ((sws_congr (dEnv_of h)).trans hs), is_par3 h2⟩
/-- o[i] = e -/
theorem js_setIx {t : Ct → TSet} {f : D → List D → Option (D × D)} {T : String} {tpos : Pos} {ei : Expr} {mi : Mo Vx} (j : Nat) (hp : ∀ X, Cok c W N sc k X → PSet X (t c)) (hu : MuI c.K c.mg (rOfSet (t c)) f) (ha : JE c W N sc k a ma) (hi : JE c W N sc k ei mi) (hN : N[j]? = some x := by rfl)
    (hv : sc.names.lookup x = some .local ∨ sc.names.lookup x = some .cell ∨ sc.names.lookup x = some .free := by first | exact Or.inl rfl | exact Or.inr (Or.inl rfl) | exact Or.inr (Or.inr rfl)) (hd : (x == ("__debug__" : Str)) = false := by decide) (hcd : (x == ("__classdict__" : Str)) = false := by decide)
    (hs : swapsWithSole [.Subscript (.Name x p) ei tpos] a pos.line (dEnv sc.toScope) = pure false := by rfl) (hw : swappedStores [.Subscript (.Name x p) ei tpos] a (dEnv sc.toScope) = pure none := by rfl) (h1 : ∀ env, (assignEach [.Subscript (.Name x p) ei tpos] env).map (·.2) = [assign (.Subscript (.Name x p) ei tpos) env] := by intro _; rfl)
    (has : ∀ env v, assign (.Subscript (.Name x p) ei tpos) env v = (do
      let ov ← holding [v] (eval (.Name x p) env)
      let iv ← holding [v, ov] (eval ei env)
      standAt tpos
      holding [v, ov, iv] (setItem ov iv v)
      release [v, ov, iv] []) := by intro _ _; rfl) : JS c W N sc k (.Assign [.Subscript (.Name x p) ei tpos] a pos) (sSetIx T j f mi ma) := by
  obtain ⟨ta, g1, g2⟩ := ha
  obtain ⟨ti, g3, g4⟩ := hi
  exact ⟨_, fun X h => ps_asg (g1 X h) (pg_sub (pe_var (pos := p) (by rw [h.nn]; exact hN) (by unfold Vis; rw [h.scp]; exact hv) hd hcd) (g3 X h) (hp X h) (has _)) ((sws_congr (dEnv_of h)).trans hs) ((sw_congr (dEnv_of h)).trans hw) (h1 _), is_setIx hu g2 g4⟩
theorem js_setL {tpos : Pos} {ei : Expr} {mi : Mo Vx} (j : Nat) (ha : JE c W N sc k a ma) (hi : JE c W N sc k ei mi) (hN : N[j]? = some x := by rfl)
    (hv : sc.names.lookup x = some .local ∨ sc.names.lookup x = some .cell ∨ sc.names.lookup x = some .free := by first | exact Or.inl rfl | exact Or.inr (Or.inl rfl) | exact Or.inr (Or.inr rfl)) (hd : (x == ("__debug__" : Str)) = false := by decide) (hcd : (x == ("__classdict__" : Str)) = false := by decide)
    (hs : swapsWithSole [.Subscript (.Name x p) ei tpos] a pos.line (dEnv sc.toScope) = pure false := by rfl) (hw : swappedStores [.Subscript (.Name x p) ei tpos] a (dEnv sc.toScope) = pure none := by rfl) (h1 : ∀ env, (assignEach [.Subscript (.Name x p) ei tpos] env).map (·.2) = [assign (.Subscript (.Name x p) ei tpos) env] := by intro _; rfl)
    (has : ∀ env v, assign (.Subscript (.Name x p) ei tpos) env v = (do
      let ov ← holding [v] (eval (.Name x p) env)
      let iv ← holding [v, ov] (eval ei env)
      standAt tpos
      holding [v, ov, iv] (setItem ov iv v)
      release [v, ov, iv] []) := by intro _ _; rfl) : JS c W N sc k (.Assign [.Subscript (.Name x p) ei tpos] a pos) (sSetIx "list" j fSetL mi ma) :=
  js_setIx (t := fun _ => rSetL) j (fun X h => set_list) m_setL ha hi hN hv hd hcd hs hw h1 has
theorem js_if {t : Mo Bool} {A B : List Stmt} {sa sb : So} (hc : JT c W N sc k a t) (ha : JSs c W N sc k A sa) (hb : JSs c W N sc k B sb) : JS c W N sc k (.If a A B pos) (sIf t sa sb) := by
  obtain ⟨t1, h1, h2⟩ := hc
  obtain ⟨t2, h3, h4⟩ := ha
  obtain ⟨t3, h5, h6⟩ := hb
  exact ⟨_, fun X h => ps_if (h1 X h) (h3 X h) (h5 X h), is_if h2 h4 h6⟩
theorem js_for {raw : Bool} {tg iter : Expr} {B : List Stmt} {mi : Mo (List D)} {gm : D → En → Option En} {sb : So} (hi : JI c W N sc k raw tg iter mi) (hg : JGt c W N sc k raw tg gm) (hb : JSs c W N sc k B sb) (hs : ∀ env x, foldedSetIterable iter env x = pure x := by intro _ _; rfl) : JS c W N sc k (.For tg iter B [] pos) (sFor gm mi sb) := by
  obtain ⟨t1, h1, h2⟩ := hi
  obtain ⟨t2, h3, h4⟩ := hg
  obtain ⟨t3, h5, h6⟩ := hb
  exact ⟨_, fun X h => ps_for h.pass h.calm (h1 X h) (h3 X h) (h5 X h) (hs _), is_for h2 h4 h6⟩
theorem js_while {t : Mo Bool} {B : List Stmt} {sb : So} (n : Nat) (hc : JT c W N sc k a t) (hb : JSs c W N sc k B sb) : JS c W N sc k (.While a B [] pos) (whileL t sb n) := by
  obtain ⟨t1, h1, h2⟩ := hc
  obtain ⟨t3, h5, h6⟩ := hb
  exact ⟨_, fun X h => ps_while h.pass (h1 X h) (h5 X h), is_while n h2 h6⟩
theorem jss_nil : JSs c W N sc k [] sSkip := ⟨_, fun X h => pss_nil, is_skip⟩
theorem jss_cons {st : Stmt} {A : List Stmt} {sa sb : So} (ha : JS c W N sc k st sa) (hb : JSs c W N sc k A sb) : JSs c W N sc k (st :: A) (sSeq sa sb) := by
  obtain ⟨t2, h3, h4⟩ := ha
  obtain ⟨t3, h5, h6⟩ := hb
  exact ⟨_, fun X h => pss_cons (h3 X h) (h5 X h), is_seq h4 h6⟩
end
/-! ### a def -/
/-- a def of p parameters, n names -/
def mDef (p n : Nat) (m : So) : Fn := fun args => if args.length = p then mFn n m args else .stuck
theorem FSp_def {K : Kx} {mg : Str → Option Value} {p n : Nat} {m : So} {vs : List V} {H : Hp} {Q : VK} {E : XK} (h : FSp K mg (mDef p n m) vs H Q E) : vs.length = p ∧ FSp K mg (mFn n m) vs H Q E := by
  obtain ⟨P, G, args, r, hB, h⟩ := h
  have al : args.length = vs.length := by
    have := r.len
    rw [List.length_map] at this
    exact this.symm
  unfold mDef at h
  by_cases hp : args.length = p
  · rw [if_pos hp] at h
    exact ⟨by omega, P, G, args, r, hB, h⟩
  · rw [if_neg hp] at h
    exact h.elim
theorem cal_of {c : Ct} {x qual : Str} {params : Arguments} {body : List Stmt} {scope : Scope} {k : Nat} {N ps : List Str} {m : So} {f : Addr} {fd : FuncData} (F : FunD c.K.K x qual params body scope [] [] f fd) (hm : c.mg x = some (.ref f)) (S : FnScope N ps scope) (hb : Binds c.K.K fd ps [])
    (h : ∀ (E : XK), JSs c (fun cls d _ H => E cls d H) N (sxD scope) k body m) : Cal c (k + 1) x (mDef ps.length N.length m) := by
  refine ⟨f, fd, ps, F.ok S (fun vs H Q E q => (FSp_def q).1) fun cdv A outer s H vs Q E hr q => ?_, hm, F.kp, hb⟩
  obtain ⟨hl, q⟩ := FSp_def q
  obtain ⟨ts, h1, h2⟩ := h E
  have hpl : ps.length ≤ N.length := by have := congrArg List.length S.pre; rw [List.length_take] at this; omega
  refine ⟨ts, h1 _ ⟨rfl, rfl, rfl, rfl, rfl, rfl, rfl, rfl, hr, takes_of rfl rfl rfl rfl, passes_of rfl, fun _ _ => rfl⟩, fn_body h2 (by omega) q⟩
end Fw
set_option Elab.async false
set_option linter.all false
set_option maxRecDepth 100000
set_option maxHeartbeats 2000000
/-! Fw17: more words: tuples taken apart at once, list methods, tuple.index, [::-1], recursion's ground. -/
namespace Fw
open PySem PySem.Spec PyProof.Rows L2
abbrev dIsn : D → D → Option Bool := fun a b => (dIs a b).map not
abbrev dNin : D → D → Option Bool := fun a b => (dIn a b).map not
/-! ### a, b, .. = x, y, .. by a tuple -/
def gNms : List Nat → TGs
  | [] => gNil
  | i :: is => gCons (gName i) (gNms is)
section
variable {K : Kx} {mg : Str → Option Value} {W : WX}
variable {P P' : Pr} {G G' H H' : Hp} {e e' : En} {σ σ' : L2.St} {v : V} {x : Vx} {Dn : Ends}
theorem gNms_run : ∀ {is : List Nat} {vs : List V} {σ : L2.St} {Q : L2.St → Hp → Prop}, vs.length = is.length → Q (setsV is vs σ) H → gNms is vs σ H Q
  | [], [], σ, Q, _, q => ⟨rfl, q⟩
  | i :: is, v :: vs, σ, Q, hl, q => ⟨v, vs, rfl, gNms_run (is := is) (by simpa using hl) q⟩
  | [], _ :: _, _, _, hl, _ => by simp at hl
  | _ :: _, [], _, _, hl, _ => by simp at hl
theorem is_parT {is : List Nat} {ta : TA} {ma : Mo (List Vx)} (hz : is.length ≤ 1000) (ha : ImA K mg W ta ma) : ImS K mg W (tAsg (tTupE ta) (gTup K.K is.length (gNms is))) (sPar is ma) := by
  intro P G H e σ Dn r h
  refine ha P G H e σ _ r (PoS.of h fun xs e1 _ h1 G1 H1 vs r1 s1 p1 x1 => ?_)
  obtain ⟨e2, q, k⟩ := PoS.oNx h1
  obtain ⟨r2, hl⟩ := r1.puts x1 q
  refine ⟨by rw [hl, sizeLine_eq]; omega, fun p ob hob hp => ⟨p, vs, rfl, .inl (.inr ⟨ob, upd_same⟩), hl, gNms_run hl (k G1 _ _ (r2.grow (Sub.new hp)) s1)⟩⟩
/-! ### xs[::-1] -/
def tRevX (K : PySem.W.Frag) (te : TE) : TE := fun σ H Q => te σ H fun x H1 => ∃ a xs, x = .ref a ∧ ((SqL K H1 a xs ∧ ∀ p, H1 p = none → Q (.ref p) (upd H1 p (.lst xs.reverse))) ∨ (SqT K H1 a xs ∧ NewT H1 Q xs.reverse))
def dRev : D → Option Vx
  | .list ds => some (.nw (.list ds.reverse))
  | .tuple ds => some (.v (.tuple ds.reverse))
  | _ => none
abbrev mRev (m : Mo Vx) : Mo Vx := mUn dRev m
theorem Rl.reverse : ∀ {vs : List V} {ds : List D}, Rl K mg G vs ds → Rl K mg G vs.reverse ds.reverse
  | _, _, .nil => .nil
  | _, _, .cons a b => by
    rw [List.reverse_cons, List.reverse_cons]
    exact (Rl.reverse b).append (.cons a .nil)
theorem i_rev {te : TE} {m : Mo Vx} (hm : ImE K mg W te m) : ImE K mg W (tRevX K.K te) (mRev m) := by
  intro P G H e σ Q rl h
  refine hm P G H e σ _ rl (Po.bind h fun x e1 _ h1 G1 H1 v1 r1 s1 p1 x1 => ?_)
  cases q : x.d e1 with
  | none => rw [q] at h1; exact h1.elim
  | some a =>
    rw [q] at h1
    dsimp only at h1
    cases qf : dRev a with
    | none => rw [qf] at h1; exact h1.elim
    | some z =>
      rw [qf] at h1
      have ro := r1.read x1 q
      have k : ∀ G' H' v, Rel K mg P G' H' e1 σ → Sub G1 G' → Rx K mg P G' H' e1 σ v z → Q v H' := fun G' H' v r s x => h1 G' H' v r (s1.trans s) p1 x
      cases ro with
      | lst e1 l1 => cases qf; exact ⟨_, _, rfl, .inl ⟨SqL.of e1, newL r1 l1.reverse k⟩⟩
      | tup e1 l1 => cases qf; exact ⟨_, _, rfl, .inr ⟨r1.sub.q e1, newTp r1 l1.reverse k⟩⟩
      | _ => cases qf
/-! ### t.index(x), texts -/
def strsD : List D → Option (List Str)
  | [] => some []
  | .str i :: ds => (strsD ds).map (i :: ·)
  | _ => none
/-- the first place of z -/
def fdIx (z : Str) : List Str → Option Nat
  | [] => none
  | y :: ys => if y = z then some 0 else (fdIx z ys).map (· + 1)
theorem fdIx_ok {z : Str} : ∀ {ys : List Str} {j : Nat}, fdIx z ys = some j → ys[j]? = some z ∧ ∀ m, m < j → ys[m]? ≠ some z
  | [], j, h => by cases h
  | y :: ys, j, h => by
    unfold fdIx at h
    split at h
    · rename_i e
      cases h
      exact ⟨by rw [e] <;> rfl, fun m hm => absurd hm (Nat.not_lt_zero _)⟩
    · rename_i e
      obtain ⟨i, hi, rfl⟩ := Option.map_eq_some_iff.mp h
      obtain ⟨h1, h2⟩ := fdIx_ok hi
      refine ⟨h1, fun m hm => ?_⟩
      cases m with
      | zero => exact fun q => e (Option.some.inj q)
      | succ m => exact h2 m (by omega)
def fIndexT : D → List D → Option Vx
  | .tuple ds, [.str z] => (match strsD ds with
    | some ys => (fdIx z ys).map fun j => .v (.int (j : Nat))
    | none => none)
  | _, _ => none
theorem Rl.strs : ∀ {vs : List V} {ds : List D} {ns : List Str}, Rl K mg G vs ds → strsD ds = some ns → vs = ns.map V.str
  | _, _, _, .nil, h => by cases h; rfl
  | _, .str i :: ds, _, .cons a b, h => by
    obtain ⟨ms, hm, rfl⟩ := Option.map_eq_some_iff.mp (show (strsD ds).map (i :: ·) = some _ from h)
    cases a
    rw [Rl.strs b hm] <;> rfl
def rTupIndex (K : PySem.W.Frag) : V → List V → Hp → VK → Prop := fun x xs H Q => ∃ p, ∃ ys : List Str, ∃ z j, x = .ref p ∧ xs = [.str z] ∧ SqT K H p (ys.map V.str) ∧ ys[j]? = some z ∧ (∀ m, m < j → ys[m]? ≠ some z) ∧ Q (.int (j : Nat)) H
theorem m_indexT : MtI K mg (rTupIndex K.K) fIndexT := by
  intro P G H e σ x vs dx ds z Q rl ro pr h k
  unfold fIndexT at h
  split at h
  · split at h
    · rename_i ys hy
      obtain ⟨j, hj, rfl⟩ := Option.map_eq_some_iff.mp h
      obtain ⟨w, rfl, ro2⟩ := Paired.one1 pr
      cases ro2
      cases ro with
      | tup e1 l1 =>
        have := l1.strs hy
        subst this
        obtain ⟨g1, g2⟩ := fdIx_ok hj
        exact ⟨_, ys, _, j, rfl, rfl, rl.sub.q e1, g1, g2, k G H _ rl (Sub.refl _) (.int _)⟩
    · cases h
  · cases h
end
/-! ### t[::-1] in the model -/
section
variable {prog : Program} {w : World} {A : Around} {E : Value → Shared → Prop} {s : Shared}
theorem adjust_rev (n : Nat) : Builtin.Slice.sliceAdjust none none (-1) (n : Int) = ((n : Int) - 1, -1) := by
  unfold Builtin.Slice.sliceAdjust
  simp
theorem places_rev (n : Nat) : Builtin.Slice.slicePlaces ((n : Int) - 1) (-1) (-1) = n := by
  unfold Builtin.Slice.slicePlaces
  have h1 : ¬ ((-1 : Int) > 0) := by omega
  simp only [h1, if_false]
  by_cases h : (n : Int) - 1 > -1
  · simp only [h, if_true]
    have e : -(-1 : Int) = 1 := by omega
    rw [e, Int.ediv_one]
    omega
  · simp only [h, if_false]
    omega
theorem fm_congr {α β : Type} {f g : α → Option β} : ∀ {l : List α}, (∀ a, a ∈ l → f a = g a) → l.filterMap f = l.filterMap g
  | [], _ => rfl
  | a :: l, h => by
    rw [List.filterMap_cons, List.filterMap_cons, h a List.mem_cons_self, fm_congr fun b hb => h b (List.mem_cons_of_mem _ hb)]
theorem sliceApplied_rev {sl : Addr} {vl vu vs : Value} {n : Nat} {Q : Int × Int × Nat → Shared → Prop} (hs : s.heap.IsSliceOf sl vl vu vs) (pl : IsPart vl none) (pu : IsPart vu none) (ps : IsPart vs (some (-1)))
    (h : Q ((n : Int) - 1, -1, n) s) : wpAny (model prog w) A (Builtin.Slice.sliceApplied (.ref sl) (pure (n : Int))) Q E s := by
  obtain ⟨os, hos, hcs, hds⟩ := id hs
  unfold Builtin.Slice.sliceApplied Builtin.Slice.sliceFields
  refine wpAny_bind (wpAny_bind (wpAny_field hos hds (x := vl) rfl (wpAny_bind (wpAny_field hos hds (x := vu) rfl (wpAny_bind (wpAny_field hos hds (x := vs) rfl (wpAny_pure ?_)))))))
  refine wpAny_bind (HT.slicePart_ ps ?_)
  show wpAny _ _ (if ((-1 : Int) == 0) = true then _ else _) _ _ s
  rw [if_neg (by decide)]
  refine wpAny_bind (HT.slicePart_ pl (wpAny_bind (HT.slicePart_ pu (wpAny_bind (wpAny_pure ?_)))))
  show wpAny _ _ (match Builtin.Slice.sliceAdjust none none (-1) (n : Int) with | (lo, hi) => pure (lo, (-1 : Int), Builtin.Slice.slicePlaces lo hi (-1))) _ _ s
  rw [adjust_rev n]
  show wpAny _ _ (pure ((n : Int) - 1, (-1 : Int), Builtin.Slice.slicePlaces ((n : Int) - 1) (-1) (-1))) _ _ s
  rw [places_rev]
  exact wpAny_pure h
theorem pick_rev (xs : Array Value) : ((List.range xs.size).filterMap fun (m : Nat) => xs[(((xs.size : Int) - 1) + (m : Int) * -1).toNat]?).toArray = xs.toList.reverse.toArray := by
  have e1 : ((List.range xs.size).filterMap fun (m : Nat) => xs[(((xs.size : Int) - 1) + (m : Int) * -1).toNat]?) = (List.range xs.size).filterMap ((fun i => xs[i]?) ∘ fun k => xs.size - 1 - k) := by
    refine fm_congr fun m hm => ?_
    have hm := List.mem_range.mp hm
    have : (((xs.size : Int) - 1) + (m : Int) * -1).toNat = xs.size - 1 - m := by omega
    rw [this] <;> rfl
  rw [e1, ← List.filterMap_map, PySem.W.krv_range, List.filterMap_reverse, PySem.W.krv_all]
theorem getItem_tup_rev {t sl : Addr} {items : Array Value} {vl vu vs : Value} {Q : Value → Shared → Prop} (ht : IsTup s.heap t items) (hs : s.heap.IsSliceOf sl vl vu vs) (pl : IsPart vl none) (pu : IsPart vu none) (ps : IsPart vs (some (-1)))
    (h : Q (.ref s.heap.objs.size) { s with heap := s.heap.push { cls := .type "tuple", data := .seq items.toList.reverse.toArray } }) (hsz : items.size ≤ sizeLine) : wpAny (model prog w) A (getItem (.ref t) (.ref sl)) Q E s := by
  have htake : sizeOk (.seq items.toList.reverse.toArray) := by
    show items.toList.reverse.toArray.size ≤ sizeLine
    simpa using hsz
  obtain ⟨os, hos, hcs, hds⟩ := id hs
  have hTs : s.TypeIs (.ref sl) "slice" := ⟨os, hos, hcs⟩
  unfold getItem
  try with_reducible refine wpAny_holding ?_
  first | refine wpAny_bind (wpAny_pure ?_) | skip
  refine wpAny_bind (wpAny_sequenceKey ht.typeIs (by decide) ?_)
  refine wpAny_bind (wpAny_callSpecial?_slot (name := Str.ofString "__getitem__") ht.typeIs PyProof.Rows.slot_tuple_getitem
    (wpAny_call_entry PyProof.Rows.slot_tuple_getitem ht.typeIs entry_tuple_getitem ?_ (args_tuple_getitem _ _)))
  show wpAny _ _ (Builtin.Tuple.tupleItemsOf (.ref t) >>= _) _ _ s
  refine wpAny_bind (tupleItemsOf_ ht ?_)
  refine wpAny_bind (wpAny_typeOf hTs ?_)
  rw [if_pos (by decide)]
  refine wpAny_bind (sliceApplied_rev hs pl pu ps ?_)
  have hno : ¬ ((((items.size : Int) - 1) == 0 && (-1 : Int) == 1 && items.size == items.size) = true) := by simp
  show wpAny _ _ (if (((items.size : Int) - 1) == 0 && (-1 : Int) == 1 && items.size == items.size) = true then _ else _) _ _ s
  rw [if_neg hno, pick_rev]
  first
    | exact wpAny_bind (m := Builtin.Tuple.tupleExact _) (wpAny_newObj_type (wpAny_pure ⟨_, rfl, wpAny_pure h⟩) htake)
    | exact wpAny_bind (m := Builtin.Tuple.tupleExact _) (wpAny_newObj_type (wpAny_bind (wpAny_pure (wpAny_pure ⟨_, rfl, wpAny_pure h⟩))) htake)
    | exact wpAny_bind (wpAny_bind (m := Builtin.Tuple.tupleExact _) (wpAny_newObj_type (wpAny_pure (wpAny_pure ⟨_, rfl, wpAny_pure h⟩)) htake))
    | exact wpAny_bind (wpAny_bind (m := Builtin.Tuple.tupleExact _) (wpAny_newObj_type (wpAny_pure ⟨_, rfl, wpAny_pure h⟩) htake))
end
section
variable {X : Cx}
theorem pe_revX {e : Expr} {te : TE} {k : Nat} {p1 p2 p3 pos : Pos} (he : PE X e te) : PE X (.Subscript e (.Slice none none (some (.UnaryOp .USub (.Constant (.int 1) k p1) p2)) p3) pos) (tRevX X.K te) := by
  refine ⟨fun pins s σ H Q I h => ?_⟩
  refine Subscript_ (thn (he.run pins s σ H _ I h) fun v s1 ⟨x, H1, I1, r1, q1⟩ => ?_)
  obtain ⟨a, xs, ex, hx⟩ := q1
  subst ex
  cases r1
  have hst : PO X (some (.UnaryOp .USub (.Constant (.int 1) k p1) p2)) (tPart (tUn (rU fun i => .int (-i)) (tC (.int 1)))) := po_some (pe_un un_neg pe_int)
  refine wpAny_Slice (thn (po_none.run pins s1 σ H1 (fun o H2 => o = none ∧ H2 = H1) I1 ⟨rfl, rfl⟩) fun vl s2 ⟨l, H2, I2, pl, el, e2⟩ => ?_)
  subst el e2
  refine thn (po_none.run pins s2 σ H2 (fun o H3 => o = none ∧ H3 = H2) I2 ⟨rfl, rfl⟩) fun vu s3 ⟨u, H3, I3, pu, eu, e3⟩ => ?_
  subst eu e3
  refine thn (hst.run pins s3 σ H3 (fun o H4 => o = some (-1) ∧ H4 = H3) I3 ⟨1, rfl, -1, rfl, rfl, rfl⟩) fun vs s4 ⟨o, H4, I4, ps, eo, e4⟩ => ?_
  subst eo e4
  have I5 : Inv X pins σ H4 { s4 with heap := s4.heap.push { cls := .type "slice", data := .fields #[vl, vu, vs] } } := I4.kept (t' := s4.toks) fun b ob q => Heap.get?_push_of_some _ q
  show wpAny (model X.prog X.w) X.A (subscriptTail e (.Slice none none (some (.UnaryOp .USub (.Constant (.int 1) k p1) p2)) p3) (.ref a) (.ref s4.heap.objs.size)) (EP X pins σ Q) X.xe { s4 with heap := s4.heap.push { cls := .type "slice", data := .fields #[vl, vu, vs] } }
  rcases hx with ⟨hx, q⟩ | ⟨hx, q⟩
  · obtain ⟨its, r, ht, hz⟩ := I5.list hx
    have hlen := r.length
    refine tail_any (ops := [.ref a, .ref s4.heap.objs.size]) ht.isList.typeIs (PySem.slot_list_getitem.lookup) ?_ (by with_unfolding_all rfl)
    refine wpAny_getItem_list_slice ht.isList (Heap.IsSliceOf.new _ vl vu vs) pl pu ps (by decide) ?_ (by rw [List.size_toArray]; omega)
    rw [PySem.W.krv_pick]
    refine ⟨.ref _, _, I5.laid (t' := s4.toks) (o := .lst xs.reverse) (fun b ob q => Heap.get?_push_of_some _ q) (Nat.le_refl _) ?_, rfl, q _ (I5.hok.fresh (Nat.le_refl _))⟩
    exact ⟨by rw [List.length_reverse]; exact hz, _, 0, r.reverse, Heap.get?_push_size _ rfl⟩
  · obtain ⟨its, r, ht, hz⟩ := I5.tuple hx
    have hlen := r.length
    refine tail_any (ops := [.ref a, .ref s4.heap.objs.size]) ht.typeIs (PyProof.Rows.slot_tuple_getitem.lookup) ?_ (by with_unfolding_all rfl)
    refine getItem_tup_rev ht (Heap.IsSliceOf.new _ vl vu vs) pl pu ps ?_ (by rw [List.size_toArray]; omega)
    exact ⟨.ref _, _, invTupE I5 (its := its.reverse) r.reverse (by rw [List.length_reverse]; exact hz), rfl, q _ _ rfl (I5.hok.fresh (Nat.le_refl _))⟩
end
section
variable {c : Ct} {W : WX} {N : List Str} {sc : Sx} {k : Nat} {pos pos' p apos cpos : Pos} {e a b d : Expr} {es : List Expr} {m ma mb md : Mo Vx} {mas : Mo (List Vx)} {x : Str}
theorem jgs_names (nd : N.Nodup) : True := trivial
/-- the names of a target, their slots -/
inductive NmsOk (N : List Str) (sc : Sx) : List Expr → List Nat → Prop
  | nil : NmsOk N sc [] []
  | cons {x : Str} {p : Pos} {i : Nat} {es : List Expr} {is : List Nat} (hN : N[i]? = some x) (hx : sc.names.lookup x = some .local ∨ sc.names.lookup x = some .cell) (hf : sc.fc x = true ∨ sc.names.lookup x = some .local) (hs : ∀ env, (assignEach (.Name x p :: es) env).map (·.2) = assign (.Name x p) env :: (assignEach es env).map (·.2)) (t : NmsOk N sc es is) : NmsOk N sc (.Name x p :: es) (i :: is)
theorem NmsOk.pgs {X : Cx} (h : Cok c W N sc k X) (nd : N.Nodup) : ∀ {es : List Expr} {is : List Nat}, NmsOk N sc es is → PGs X es (gNms is)
  | _, _, .nil => pgs_nil
  | _, _, .cons hN hx hf hs t => pgs_cons (pg_of h _ nd hN hx hf) (NmsOk.pgs h nd t) (hs _)
theorem js_parT {ts vs : List Expr} {pt pt2 : Pos} {kt k2 : Nat} (is : List Nat) (nd : N.Nodup) (ha : JA c W N sc k vs mas) (hn : NmsOk N sc ts is := by
      repeat' first | exact NmsOk.nil | refine NmsOk.cons rfl (by first | exact Or.inl rfl | exact Or.inr rfl) (by first | exact Or.inl rfl | exact Or.inr rfl) (by intro _; rfl) ?_)
    (hz : is.length ≤ 1000 := by decide) (hl : ∀ env, (assignEach ts env).length = is.length := by intro _; rfl) (hst : ∀ env, (assignEach ts env).findIdx? (·.1) = none := by intro _; rfl)
    (hw : swappedStores [.Tuple ts kt pt] (.Tuple vs k2 pt2) (dEnv sc.toScope) = pure none := by rfl) (hs : swapsWithSole [.Tuple ts kt pt] (.Tuple vs k2 pt2) pos.line (dEnv sc.toScope) = pure false := by rfl)
    (h1 : ∀ env, (assignEach [.Tuple ts kt pt] env).map (·.2) = [assign (.Tuple ts kt pt) env] := by intro _; rfl) : JS c W N sc k (.Assign [.Tuple ts kt pt] (.Tuple vs k2 pt2) pos) (sPar is mas) := by
  obtain ⟨ta, g1, g2⟩ := ha
  exact ⟨tAsg (tTupE ta) (gTup c.K.K is.length (gNms is)), fun X h => by
    have := pg_tup (X := X) (k := kt) (pos := pt) (t := gNms is) (n := is.length) h.calm (hn.pgs h nd) (hl _) (hst _)
    rw [h.kk] at this
    exact ps_asg (pe_tupE (g1 X h)) this ((sws_congr (dEnv_of h)).trans hs) ((sw_congr (dEnv_of h)).trans hw) (h1 _), is_parT hz g2⟩
theorem j_append (i : Nat) (ha : JA c W N sc k (e :: es) mas) (hN : N[i]? = some x := by rfl) (hv : sc.names.lookup x = some .local ∨ sc.names.lookup x = some .cell ∨ sc.names.lookup x = some .free := by first | exact Or.inl rfl | exact Or.inr (Or.inl rfl) | exact Or.inr (Or.inr rfl))
    (hd : (x == ("__debug__" : Str)) = false := by decide) (hcd : (x == ("__classdict__" : Str)) = false := by decide)
    (hbase : ∀ env, attributeBase (.Name x p) "append" env (eval (.Name x p) env) = eval (.Name x p) env := by intro _; rfl)
    (hfew : ∀ env, ((backTo cpos (starEach (e :: es) env)).all (fun x => !x.1) && (backToKw cpos (keywordEach [] env)).all (fun x => x.1.isSome)
      && decide ((e :: es).length + ([] : List Keyword).length + (if ([] : List Keyword).isEmpty then 0 else 1) < 30)) = true := by intro _; rfl)
    (hline : (apos.endLine == cpos.line) = true := by rfl) (hs : ∀ env, starEach (e :: es) env = (false, eval e env) :: starEach es env := by intro _; rfl) (hplain : ∀ env, (backTo cpos (starEach es env)).any (·.1) = false := by intro _; rfl) :
    JE c W N sc k (.Call (.Attribute (.Name x p) "append" apos) (e :: es) [] cpos) (mMut "list" i fAppend mas) :=
  j_mut (r := fun _ => rAppend) i (.inl rfl) PySem.F.plainAttrs_list PySem.F.slot_list_append PySem.F.type_list_append (fun X h => mt_append) m_append ha hN hv hd hcd hbase hfew hline hs hplain
theorem j_insert (i : Nat) (ha : JA c W N sc k (e :: es) mas) (hN : N[i]? = some x := by rfl) (hv : sc.names.lookup x = some .local ∨ sc.names.lookup x = some .cell ∨ sc.names.lookup x = some .free := by first | exact Or.inl rfl | exact Or.inr (Or.inl rfl) | exact Or.inr (Or.inr rfl))
    (hd : (x == ("__debug__" : Str)) = false := by decide) (hcd : (x == ("__classdict__" : Str)) = false := by decide)
    (hbase : ∀ env, attributeBase (.Name x p) "insert" env (eval (.Name x p) env) = eval (.Name x p) env := by intro _; rfl)
    (hfew : ∀ env, ((backTo cpos (starEach (e :: es) env)).all (fun x => !x.1) && (backToKw cpos (keywordEach [] env)).all (fun x => x.1.isSome)
      && decide ((e :: es).length + ([] : List Keyword).length + (if ([] : List Keyword).isEmpty then 0 else 1) < 30)) = true := by intro _; rfl)
    (hline : (apos.endLine == cpos.line) = true := by rfl) (hs : ∀ env, starEach (e :: es) env = (false, eval e env) :: starEach es env := by intro _; rfl) (hplain : ∀ env, (backTo cpos (starEach es env)).any (·.1) = false := by intro _; rfl) :
    JE c W N sc k (.Call (.Attribute (.Name x p) "insert" apos) (e :: es) [] cpos) (mMut "list" i fInsert mas) :=
  j_mut (r := fun _ => rInsert) i (.inl rfl) PySem.F.plainAttrs_list PySem.F.slot_list_insert PySem.F.type_list_insert (fun X h => mt_insertX) m_insert ha hN hv hd hcd hbase hfew hline hs hplain
theorem j_popAt (i : Nat) (ha : JA c W N sc k (e :: es) mas) (hN : N[i]? = some x := by rfl) (hv : sc.names.lookup x = some .local ∨ sc.names.lookup x = some .cell ∨ sc.names.lookup x = some .free := by first | exact Or.inl rfl | exact Or.inr (Or.inl rfl) | exact Or.inr (Or.inr rfl))
    (hd : (x == ("__debug__" : Str)) = false := by decide) (hcd : (x == ("__classdict__" : Str)) = false := by decide)
    (hbase : ∀ env, attributeBase (.Name x p) "pop" env (eval (.Name x p) env) = eval (.Name x p) env := by intro _; rfl)
    (hfew : ∀ env, ((backTo cpos (starEach (e :: es) env)).all (fun x => !x.1) && (backToKw cpos (keywordEach [] env)).all (fun x => x.1.isSome)
      && decide ((e :: es).length + ([] : List Keyword).length + (if ([] : List Keyword).isEmpty then 0 else 1) < 30)) = true := by intro _; rfl)
    (hline : (apos.endLine == cpos.line) = true := by rfl) (hs : ∀ env, starEach (e :: es) env = (false, eval e env) :: starEach es env := by intro _; rfl) (hplain : ∀ env, (backTo cpos (starEach es env)).any (·.1) = false := by intro _; rfl) :
    JE c W N sc k (.Call (.Attribute (.Name x p) "pop" apos) (e :: es) [] cpos) (mMut "list" i fPopAt mas) :=
  j_mut (r := fun _ => rPopAt) i (.inl rfl) PySem.F.plainAttrs_list PySem.F.slot_list_pop PySem.F.type_list_pop (fun X h => mt_popAt) m_popAt ha hN hv hd hcd hbase hfew hline hs hplain
theorem j_pop (i : Nat) (hN : N[i]? = some x := by rfl) (hv : sc.names.lookup x = some .local ∨ sc.names.lookup x = some .cell ∨ sc.names.lookup x = some .free := by first | exact Or.inl rfl | exact Or.inr (Or.inl rfl) | exact Or.inr (Or.inr rfl))
    (hd : (x == ("__debug__" : Str)) = false := by decide) (hcd : (x == ("__classdict__" : Str)) = false := by decide)
    (hbase : ∀ env, attributeBase (.Name x p) "pop" env (eval (.Name x p) env) = eval (.Name x p) env := by intro _; rfl) (hline : (apos.endLine == cpos.line) = true := by rfl) :
    JE c W N sc k (.Call (.Attribute (.Name x p) "pop" apos) [] [] cpos) (mMut "list" i fPop mNil) :=
  j_mut0 (r := fun _ => rPop) i (.inl rfl) PySem.F.plainAttrs_list PySem.F.slot_list_pop PySem.F.type_list_pop (fun X h => mt_pop) m_pop hN hv hd hcd hbase hline
theorem j_indexT (ho : JE c W N sc k a ma) (ha : JA c W N sc k (e :: es) mas)
    (hbase : ∀ env, attributeBase a "index" env (eval a env) = eval a env := by intro _; rfl)
    (hfew : ∀ env, ((backTo cpos (starEach (e :: es) env)).all (fun x => !x.1) && (backToKw cpos (keywordEach [] env)).all (fun x => x.1.isSome)
      && decide ((e :: es).length + ([] : List Keyword).length + (if ([] : List Keyword).isEmpty then 0 else 1) < 30)) = true := by intro _; rfl)
    (hline : (apos.endLine == cpos.line) = true := by rfl) (hs : ∀ env, starEach (e :: es) env = (false, eval e env) :: starEach es env := by intro _; rfl) (hplain : ∀ env, (backTo cpos (starEach es env)).any (·.1) = false := by intro _; rfl) :
    JE c W N sc k (.Call (.Attribute a "index" apos) (e :: es) [] cpos) (mMt "tuple" fIndexT ma mas) :=
  j_mt (r := fun c => rTupIndex c.K.K) (.inr (.inl rfl)) PySem.F.plainAttrs_tuple PySem.F.slot_tuple_index PySem.F.type_tuple_index (fun X h => by have := mt_tup_index (X := X); rw [h.kk] at this; exact this) m_indexT ho ha hbase hfew hline hs hplain
/-- the ground of a def that calls itself -/
theorem cal_stuck {c : Ct} {x qual : Str} {params : Arguments} {body : List Stmt} {scope : Scope} {k : Nat} {f : Addr} {fd : FuncData} (F : FunD c.K.K x qual params body scope [] [] f fd) (hm : c.mg x = some (.ref f)) (ps : List Str) (hb : Binds c.K.K fd ps []) : Cal c k x (fun _ => .stuck) := by
  have no : ∀ vs H Q E, FSp c.K c.mg (fun _ => .stuck) vs H Q E → False := fun vs H Q E ⟨P, G, args, r, hB, h⟩ => h
  exact ⟨f, fd, ps, ⟨fun vs H Q E h => (no vs H Q E h).elim, fun A outer s H args us vs Q E _ _ _ _ h => (no vs H Q E h).elim⟩, hm, F.kp, hb⟩
theorem j_rev {kk : Nat} {p1 p2 p3 : Pos} (ha : JE c W N sc k a ma) : JE c W N sc k (.Subscript a (.Slice none none (some (.UnaryOp .USub (.Constant (.int 1) kk p1) p2)) p3) pos) (mRev ma) := by
  obtain ⟨ta, h1, h2⟩ := ha
  exact ⟨tRevX c.K.K ta, fun X h => by have := pe_revX (X := X) (k := kk) (p1 := p1) (p2 := p2) (p3 := p3) (pos := pos) (h1 X h); rw [h.kk] at this; exact this, i_rev h2⟩
end
/-! sets, on data -/
def keysD : List D → Option (List Key)
  | [] => some []
  | .int i :: ds => (keysD ds).map (.inl i :: ·)
  | .str x :: ds => (keysD ds).map (.inr x :: ·)
  | _ => none
def addD (acc : List D) (d : D) : List D := if (acc.any fun x => PyData.eqv x d) = true then acc else acc ++ [d]
def dedupD (ds : List D) : List D := ds.foldl addD []
def setOk (ds : List D) : Bool := (keysD ds).isSome && decide (ds.length ≤ 1000)
def dSortedSet : D → Option Vx
  | .tuple ds => if (setOk ds && sortOk (dedupD ds)) = true then some (.nw (.list (sortD (dedupD ds)))) else none
  | .list ds => if (setOk ds && sortOk (dedupD ds)) = true then some (.nw (.list (sortD (dedupD ds)))) else none
  | _ => none
end Fw
set_option Elab.async false
set_option linter.all false
set_option maxRecDepth 100000
set_option maxHeartbeats 2000000
/-! Fw18: the end: a law's def as it keeps its mirror gives the statement's walk. -/
namespace Fw
open PySem PySem.Spec PyProof.Rows L2
theorem walk_ofEB {l : PySem.W.OpenLaw} {n k : Nat} {q : Program} {loose : List Str} {XP : (Str → Option Value) → Heap → Prop} {YP : World → Heap → Prop} {d : DefRec} {CX : World → CXT} {x : Str}
    (hn : l.most = some n) (hn2 : n ≤ sizeLine) (hdf : d.params.defaults = []) (hr : Room k callerA)
    (F : ∀ (w : World) (mg : Str → Option Value) (fa : Addr) (h : Heap), YP w h → h.Ns mainGlobals mg → mg d.name = some (.ref fa) →
      ∃ (K : PySem.W.Frag) (fd : FuncData) (sp : Sp), K.In h ∧ (∀ (s : Shared) (u : Value), BindsTo s fd ⟨[u], []⟩ [(x, u)]) ∧
        (∀ (H : Hp) (a : Addr) (ns : List Int), ns.length ≤ n → (∀ z ∈ ns, Builtin.Int.intBits z ≤ 1048576) → Only H → SqL K H a (ns.map V.int) → sp [.ref a] H (fun v _ => v = .bl true) fun _ _ _ => False) ∧
        ∀ base : Heap, K.In base → base.Ns mainGlobals mg → FnOk l.prog w K mg base (CX w) k fa fd [x] sp)
    (hCX : ∀ (w : World) (H : Hp) (s : Shared) (e : Value) (s' : Shared), CX w [] H s (fun _ _ _ => False) e s' → False) :
    PySem.W.WalkO q loose XP YP l.row.toRowW d [] (fun f vs => PySem.call f vs) := by
  refine Att.attach_callB hn hdf fun w s₀ s₁ mg mb fa o pm cd doc a vs ns G Y ho hd hcd hmg hobj hints hlen hbits hg => ?_
  obtain ⟨K, fd, sp, KX, hb, hsp, hF⟩ := F w mg fa _ Y G.T.g hmg
  exact law_call KX G.T.g G.T.b G.T.builtins G.T.nolimit hg hobj hints (Nat.le_trans hlen hn2) hr hF hb (fun H hO hS => hsp H a ns hlen hbits hO hS) fun H e s' => hCX w H s₁ e s'
theorem cx_none {P : Program} (w : World) (H : Hp) (s : Shared) (e : Value) (s' : Shared) (h : L2.CX P w [] H s (fun _ _ _ => False) e s') : False := by
  obtain ⟨a, B, H', cls, d, _, _, _, _, _, _, _, z⟩ := h
  exact z
/-- the mirror's answer is True -/
def SaysTrue (f : Fn) (ns : List Int) : Prop := ∃ outs, f [.fz (scrD ns)] = .ok (.v (.bool true)) outs
theorem fsp_true {K : Kx} {mg : Str → Option Value} {f : Fn} {H : Hp} {a : Addr} {ns : List Int} (hS : SqL K.K H a (ns.map V.int)) (ht : SaysTrue f ns) : FSp K mg f [.ref a] H (fun v _ => v = .bl true) fun _ _ _ => False := by
  obtain ⟨outs, ht⟩ := ht
  have rel : ∀ G : Hp, Sub G H → SqL K.K G a (ns.map V.int) → FSp K mg f [.ref a] H (fun v _ => v = .bl true) fun _ _ _ => False := fun G s hG => by
    refine ⟨⟨fun _ => none, fun _ => none, fun _ => none⟩, G, [.fz (scrD ns)], ⟨s, fun b o h => (nomatch h), fun b o h => (nomatch h), rfl, fun i t ht => ?_, fun i j t u b hij hi hj ot ou _ _ => ?_⟩, fun i b h => (nomatch h), ?_⟩
    · cases i with
      | zero => cases ht; exact ⟨_, rfl, .scr hG⟩
      | succ i => simp at ht
    · cases i with
      | zero => cases hi; cases ot
      | succ i => simp at hi
    · rw [ht]
      intro G' H' v r s x
      cases x
      rfl
  rcases hS with hS | hS
  · refine rel (fun b => if b = a then H a else none) (fun b o h => ?_) (.inl ?_)
    · dsimp only at h
      split at h
      · rename_i e; rw [e]; exact h
      · cases h
    · rcases hS with h | ⟨o, h⟩
      · exact .inl (by dsimp only; rw [if_pos rfl]; exact h)
      · exact .inr ⟨o, by dsimp only; rw [if_pos rfl]; exact h⟩
  · exact rel (fun _ => none) (fun b o h => (nomatch h)) (.inr hS)
/-- a def's promise as the end wants it -/
theorem cal_fn {c : Ct} {k : Nat} {x : Str} {f : Fn} {fa : Addr} (h : Cal c k x f) (hm : c.mg x = some (.ref fa)) : ∃ fd ps, FnOk c.K.P c.K.w c.K.K c.mg c.base (L2.CX c.K.P c.K.w) k fa fd ps (FSp c.K c.mg f) := by
  obtain ⟨a, fd, ps, F, h2, _⟩ := h
  rw [hm] at h2
  cases h2
  exact ⟨fd, ps, F⟩
theorem fnok_of {c : Ct} {x qual : Str} {params : Arguments} {body : List Stmt} {scope : Scope} {k : Nat} {N ps : List Str} {m : So} {f : Addr} {fd : FuncData} (F : FunD c.K.K x qual params body scope [] [] f fd) (S : FnScope N ps scope)
    (h : ∀ (E : XK), JSs c (fun cls d _ H => E cls d H) N (sxD scope) k body m) : FnOk c.K.P c.K.w c.K.K c.mg c.base (L2.CX c.K.P c.K.w) (k + 1) f fd ps (FSp c.K c.mg (mDef ps.length N.length m)) := by
  refine F.ok S (fun vs H Q E q => (FSp_def q).1) fun cdv A outer s H vs Q E hr q => ?_
  obtain ⟨hl, q⟩ := FSp_def q
  obtain ⟨ts, h1, h2⟩ := h E
  have hpl : ps.length ≤ N.length := by have := congrArg List.length S.pre; rw [List.length_take] at this; omega
  exact ⟨ts, h1 _ ⟨rfl, rfl, rfl, rfl, rfl, rfl, rfl, rfl, hr, takes_of rfl rfl rfl rfl, passes_of rfl, fun _ _ => rfl⟩, fn_body h2 (by omega) q⟩
theorem gv_int {c : Ct} {x : Str} {i : Int} (h : ∃ t, c.mg x = some (.int i t)) : Gv c x (.int i) := let ⟨t, e⟩ := h; ⟨_, e, t, rfl⟩
theorem gv_str {c : Ct} {x : Str} {i : Str} (h : ∃ t, c.mg x = some (.str i t)) : Gv c x (.str i) := let ⟨t, e⟩ := h; ⟨_, e, t, rfl⟩
end Fw
set_option Elab.async false
set_option linter.all false
set_option maxRecDepth 100000
set_option maxHeartbeats 2000000
/-! Fw19: plain reasoning about mirrors: what holds behind. -/
namespace Fw
open PySem PySem.Spec PyProof.Rows L2
@[irreducible] def wM {α : Type} (m : Mo α) (e : En) (Q : α → En → Prop) : Prop := match m e with
  | .ok a e' => Q a e'
  | _ => False
@[irreducible] def wF (f : Fn) (as : List Sl) (Q : Vx → List Sl → Prop) : Prop := match f as with
  | .ok x outs => Q x outs
  | _ => False
structure Ed where
  nx : En → Prop
  rt : Vx → En → Prop
  bk : En → Prop
  ct : En → Prop
@[irreducible] def wS (m : So) (e : En) (Q : Ed) : Prop := match m e with
  | .nx e' => Q.nx e'
  | .rt x e' => Q.rt x e'
  | .bk e' => Q.bk e'
  | .ct e' => Q.ct e'
  | _ => False
section
variable {α β : Type} {m : Mo α} {e : En} {Q : α → En → Prop}
theorem wM.mono {R : α → En → Prop} (h : wM m e Q) (k : ∀ a e', Q a e' → R a e') : wM m e R := by
  unfold wM at *
  split <;> simp_all
theorem wF.mono {f : Fn} {as : List Sl} {Q R : Vx → List Sl → Prop} (h : wF f as Q) (k : ∀ x o, Q x o → R x o) : wF f as R := by
  unfold wF at *
  split <;> simp_all
theorem wS.mono {m : So} {Q R : Ed} (h : wS m e Q) (h1 : ∀ e, Q.nx e → R.nx e) (h2 : ∀ x e, Q.rt x e → R.rt x e) (h3 : ∀ e, Q.bk e → R.bk e) (h4 : ∀ e, Q.ct e → R.ct e) : wS m e R := by
  unfold wS at *
  split <;> simp_all
theorem wF.get {f : Fn} {as : List Sl} {Q : Vx → List Sl → Prop} (h : wF f as Q) : ∃ x o, f as = .ok x o ∧ Q x o := by
  unfold wF at h
  split at h
  · exact ⟨_, _, by assumption, h⟩
  · exact h.elim
theorem wF.of {f : Fn} {as : List Sl} {Q : Vx → List Sl → Prop} {x : Vx} {o : List Sl} (h : f as = .ok x o) (q : Q x o) : wF f as Q := by
  unfold wF
  rw [h]
  exact q
@[simp] theorem w_bind {f : α → Mo β} {Q : β → En → Prop} : wM (mBind m f) e Q = wM m e fun a e' => wM (f a) e' Q := by
  unfold wM mBind
  cases m e <;> with_unfolding_all rfl
@[simp] theorem w_ret {a : α} : wM (mRet a) e Q = Q a e := by with_unfolding_all rfl
@[simp] theorem w_stuck : wM (mStuck : Mo α) e Q = False := by with_unfolding_all rfl
end
/-- what stands in a slot -/
def slD : Option Sl → Option D
  | some (.ow d) => some d
  | some (.bo d) => some d
  | some (.fz d) => some d
  | _ => none
section
variable {e : En} {Q : Vx → En → Prop} {ma mb md m : Mo Vx} {mas : Mo (List Vx)} {t u : Mo Bool}
@[simp] theorem w_c {d : D} : wM (mC d) e Q = Q (.v d) e := by with_unfolding_all rfl
def wVar (s : Option Sl) (i : Nat) (e : En) (Q : Vx → En → Prop) : Prop := match s with
  | some (.fz d) => Q (.v d) e
  | some (.ow _) => Q (.pl i) e
  | some (.bo _) => Q (.pl i) e
  | _ => False
@[simp] theorem w_var {i : Nat} : wM (mVar i) e Q = wVar e[i]? i e Q := by
  unfold wM mVar wVar
  cases e[i]? with
  | none => rfl
  | some s => cases s <;> with_unfolding_all rfl
@[simp] theorem wVar_fz {i : Nat} {d : D} : wVar (some (.fz d)) i e Q = Q (.v d) e := rfl
@[simp] theorem wVar_ow {i : Nat} {d : D} : wVar (some (.ow d)) i e Q = Q (.pl i) e := rfl
@[simp] theorem wVar_bo {i : Nat} {d : D} : wVar (some (.bo d)) i e Q = Q (.pl i) e := rfl
@[simp] theorem wVar_un {i : Nat} : wVar (some .un) i e Q = False := rfl
theorem d_pl {i : Nat} : (Vx.pl i).d e = slD e[i]? := by
  show (match e[i]? with
    | some (.ow d) => some d
    | some (.bo d) => some d
    | some (.fz d) => some d
    | _ => none) = _
  cases e[i]? with
  | none => rfl
  | some s => cases s <;> with_unfolding_all rfl
@[simp] theorem slD_fz {d : D} : slD (some (.fz d)) = some d := rfl
@[simp] theorem slD_ow {d : D} : slD (some (.ow d)) = some d := rfl
@[simp] theorem slD_bo {d : D} : slD (some (.bo d)) = some d := rfl
/-- what comes of an operation -/
def wO (o : Option Vx) (e : En) (Q : Vx → En → Prop) : Prop := match o with
  | some z => Q z e
  | none => False
@[simp] theorem wO_some {z : Vx} : wO (some z) e Q = Q z e := rfl
@[simp] theorem wO_none : wO none e Q = False := rfl
def w1 (f : D → Option Vx) (o : Option D) (e : En) (Q : Vx → En → Prop) : Prop := match o with
  | some a => wO (f a) e Q
  | none => False
@[simp] theorem w1_some {f : D → Option Vx} {a : D} : w1 f (some a) e Q = wO (f a) e Q := rfl
def w2 (f : D → D → Option Vx) (o p : Option D) (e : En) (Q : Vx → En → Prop) : Prop := match o, p with
  | some a, some b => wO (f a b) e Q
  | _, _ => False
@[simp] theorem w2_some {f : D → D → Option Vx} {a b : D} : w2 f (some a) (some b) e Q = wO (f a b) e Q := rfl
@[simp] theorem d_v {d : D} : (Vx.v d).d e = some d := rfl
@[simp] theorem d_nw {d : D} : (Vx.nw d).d e = some d := rfl
@[simp] theorem d_pl' {i : Nat} : (Vx.pl i).d e = slD e[i]? := d_pl
theorem w_op2 {f : D → D → Option Vx} {x y : Vx} : wM (mOp2 f x y) e Q = w2 f (x.d e) (y.d e) e Q := by
  unfold wM mOp2 w2
  cases x.d e with
  | none => rfl
  | some a => cases y.d e with
    | none => rfl
    | some b =>
      dsimp only
      cases f a b <;> with_unfolding_all rfl
@[simp] theorem w_op {f : D → D → Option Vx} : wM (mOp f ma mb) e Q = wM ma e fun x e1 => wM mb e1 fun y e2 => w2 f (x.d e2) (y.d e2) e2 Q := by
  unfold mOp
  simp only [w_bind, w_op2]
@[simp] theorem w_un {f : D → Option Vx} : wM (mUn f ma) e Q = wM ma e fun x e1 => w1 f (x.d e1) e1 Q := by
  unfold mUn
  rw [w_bind]
  congr 1
  funext x e1
  unfold wM w1
  try dsimp only
  cases x.d e1 with
  | none => rfl
  | some a =>
    dsimp only
    cases f a <;> with_unfolding_all rfl
def wL (f : List D → Option Vx) (o : Option (List D)) (e : En) (Q : Vx → En → Prop) : Prop := match o with
  | some a => wO (f a) e Q
  | none => False
@[simp] theorem wL_some {f : List D → Option Vx} {a : List D} : wL f (some a) e Q = wO (f a) e Q := rfl
@[simp] theorem ds_nil : Vx.ds e [] = some [] := rfl
@[simp] theorem ds_cons {x : Vx} {xs : List Vx} : Vx.ds e (x :: xs) = (x.d e).bind fun d => (Vx.ds e xs).map (d :: ·) := by
  show (match x.d e, Vx.ds e xs with
    | some d, some ds => some (d :: ds)
    | _, _ => none) = _
  cases x.d e with
  | none => rfl
  | some d => cases Vx.ds e xs <;> with_unfolding_all rfl
@[simp] theorem w_cb {f : List D → Option Vx} : wM (mCb f mas) e Q = wM mas e fun xs e1 => wL f (Vx.ds e1 xs) e1 Q := by
  unfold mCb
  rw [w_bind]
  congr 1
  funext x e1
  unfold wM wL
  try dsimp only
  cases Vx.ds e1 x with
  | none => rfl
  | some a =>
    dsimp only
    cases f a <;> with_unfolding_all rfl
@[simp] theorem w_nil {Q : List Vx → En → Prop} : wM mNil e Q = Q [] e := by with_unfolding_all rfl
@[simp] theorem w_cons {Q : List Vx → En → Prop} : wM (mCons m mas) e Q = wM m e fun x e1 => wM mas e1 fun xs e2 => Q (x :: xs) e2 := by
  unfold mCons
  simp only [w_bind, w_ret]
@[simp] theorem w_val_v {d : D} {Q : D → En → Prop} : wM (mVal (.v d)) e Q = Q d e := by with_unfolding_all rfl
@[simp] theorem w_val_nw {d : D} {Q : D → En → Prop} : wM (mVal (.nw d)) e Q = Q d e := by with_unfolding_all rfl
def wVl (s : Option Sl) (i : Nat) (e : En) (Q : D → En → Prop) : Prop := match s with
  | some (.ow d) => Q d (e.set i (.fz d))
  | some (.fz d) => Q d e
  | _ => False
@[simp] theorem wVl_ow {i : Nat} {d : D} {Q : D → En → Prop} : wVl (some (.ow d)) i e Q = Q d (e.set i (.fz d)) := rfl
@[simp] theorem wVl_fz {i : Nat} {d : D} {Q : D → En → Prop} : wVl (some (.fz d)) i e Q = Q d e := rfl
@[simp] theorem w_val_pl {i : Nat} {Q : D → En → Prop} : wM (mVal (.pl i)) e Q = wVl e[i]? i e Q := by
  unfold wM mVal wVl
  try dsimp only
  cases e[i]? with
  | none => rfl
  | some s => cases s <;> with_unfolding_all rfl
@[simp] theorem w_vals_nil {Q : List D → En → Prop} : wM (mVals []) e Q = Q [] e := by with_unfolding_all rfl
@[simp] theorem w_vals_cons {x : Vx} {xs : List Vx} {Q : List D → En → Prop} : wM (mVals (x :: xs)) e Q = wM (mVal x) e fun d e1 => wM (mVals xs) e1 fun ds e2 => Q (d :: ds) e2 := by
  show wM (mBind (mVal x) fun d => mBind (mVals xs) fun ds => mRet (d :: ds)) e Q = _
  simp only [w_bind, w_ret]
@[simp] theorem w_tup : wM (mTup mas) e Q = wM mas e fun xs e1 => wM (mVals xs) e1 fun ds e2 => ds.length ≤ sizeLine ∧ Q (.v (.tuple ds)) e2 := by
  unfold mTup
  simp only [w_bind]
  congr 1
  funext xs e1
  congr 1
  funext ds e2
  by_cases h : ds.length ≤ sizeLine
  · simp [h]
  · simp [h]
@[simp] theorem w_lst : wM (mLst mas) e Q = wM mas e fun xs e1 => wM (mVals xs) e1 fun ds e2 => ds.length ≤ sizeLine ∧ Q (.nw (.list ds)) e2 := by
  unfold mLst
  simp only [w_bind]
  congr 1
  funext xs e1
  congr 1
  funext ds e2
  by_cases h : ds.length ≤ sizeLine
  · simp [h]
  · simp [h]
def wB (o : Option D) (e : En) (Q : Bool → En → Prop) : Prop := match o with
  | some (.bool b) => Q b e
  | _ => False
@[simp] theorem wB_some {b : Bool} {Q : Bool → En → Prop} : wB (some (.bool b)) e Q = Q b e := rfl
@[simp] theorem w_tst {Q : Bool → En → Prop} : wM (mTst m) e Q = wM m e fun x e1 => wB (x.d e1) e1 Q := by
  unfold mTst
  rw [w_bind]
  congr 1
  funext x e1
  unfold wM wB
  try dsimp only
  cases x.d e1 with
  | none => rfl
  | some d => cases d <;> with_unfolding_all rfl
@[simp] theorem w_and {Q : Bool → En → Prop} : wM (mAnd t u) e Q = wM t e fun b e1 => if b = true then wM u e1 Q else Q false e1 := by
  unfold mAnd
  rw [w_bind]
  congr 1
  funext b e1
  cases b <;> with_unfolding_all rfl
@[simp] theorem w_or {Q : Bool → En → Prop} : wM (mOr t u) e Q = wM t e fun b e1 => if b = true then Q true e1 else wM u e1 Q := by
  unfold mOr
  rw [w_bind]
  congr 1
  funext b e1
  cases b <;> with_unfolding_all rfl
@[simp] theorem w_not {Q : Bool → En → Prop} : wM (mNot t) e Q = wM t e fun b e1 => Q (!b) e1 := by
  unfold mNot
  simp only [w_bind, w_ret]
@[simp] theorem w_andV : wM (mAndV ma mb) e Q = wM (mTst ma) e fun b e1 => if b = true then wM mb e1 Q else Q (.v (.bool false)) e1 := by
  unfold mAndV
  rw [w_bind]
  congr 1
  funext b e1
  cases b <;> with_unfolding_all rfl
@[simp] theorem w_orV : wM (mOrV ma mb) e Q = wM (mTst ma) e fun b e1 => if b = true then Q (.v (.bool true)) e1 else wM mb e1 Q := by
  unfold mOrV
  rw [w_bind]
  congr 1
  funext b e1
  cases b <;> with_unfolding_all rfl
@[simp] theorem w_notV : wM (mNotV ma) e Q = wM (mTst ma) e fun b e1 => Q (.v (.bool (!b))) e1 := by
  unfold mNotV
  simp only [w_bind, w_ret]
@[simp] theorem w_if : wM (mIf t ma mb) e Q = wM t e fun b e1 => if b = true then wM ma e1 Q else wM mb e1 Q := by
  unfold mIf
  rw [w_bind]
  congr 1
  funext b e1
  cases b <;> with_unfolding_all rfl
@[simp] theorem w_chain {f g : D → D → Option Bool} : wM (mChain f g ma mb md) e Q = wM ma e fun x e1 => wM mb e1 fun y e2 => w2 (opB f) (x.d e2) (y.d e2) e2 fun z e3 => wB (z.d e3) e3 fun b e4 =>
    if b = true then wM md e4 fun v e5 => w2 (opB g) (y.d e5) (v.d e5) e5 Q else Q (.v (.bool false)) e4 := by
  unfold mChain
  simp only [w_bind, w_tst, w_op2]
  congr 1
  funext x e1
  congr 1
  funext y e2
  congr 1
  funext z e3
  congr 1
  funext b e4
  cases b
  · with_unfolding_all rfl
  · simp only [if_true, w_bind, w_op2]
theorem opB_some {f : D → D → Option Bool} {a b : D} {c : Bool} (h : f a b = some c) : opB f a b = some (.v (.bool c)) := by
  unfold opB
  rw [h]
  with_unfolding_all rfl
/-! calls -/
def wArg (f : Fn) (ys : List Vx) (o : Option (List Sl)) (e : En) (Q : Vx → En → Prop) : Prop := match o with
  | some as => plsOk ys = true ∧ wF f as fun x outs => (backsOk as outs && !x.isP) = true ∧ Q x (backs e ys outs)
  | none => False
@[simp] theorem wArg_some {f : Fn} {ys : List Vx} {as : List Sl} : wArg f ys (some as) e Q = (plsOk ys = true ∧ wF f as fun x outs => (backsOk as outs && !x.isP) = true ∧ Q x (backs e ys outs)) := by with_unfolding_all rfl
theorem w_callD {f : Fn} {ys : List Vx} : wM (mCallD f ys) e Q = wArg f ys (argSls e ys) e Q := by
  unfold wM mCallD wArg
  cases argSls e ys with
  | none => rfl
  | some as =>
    dsimp only
    by_cases hp : plsOk ys = true
    · rw [if_pos hp]
      simp only [hp, true_and]
      unfold wF
      cases f as with
      | ok x outs =>
        dsimp only
        by_cases hb : (backsOk as outs && !x.isP) = true
        · rw [if_pos hb]
          simp [hb]
        · rw [if_neg hb]
          simp [hb]
      | exc z outs =>
        dsimp only
        by_cases hb : backsOk as outs = true
        · simp only [hb, if_true]
        · simp only [hb]
          with_unfolding_all rfl
      | stuck => rfl
    · rw [if_neg hp]
      simp [hp]
@[simp] theorem w_call {bs : List Bool} {f : Fn} : wM (mCall bs f mas) e Q = wM mas e fun xs e1 => wM (mPrep bs xs) e1 fun ys e2 => wArg f ys (argSls e2 ys) e2 Q := by
  unfold mCall
  simp only [w_bind, w_callD]
@[simp] theorem w_prep_nil {bs : List Bool} {Q : List Vx → En → Prop} : wM (mPrep bs []) e Q = Q [] e := by
  cases bs <;> with_unfolding_all rfl
@[simp] theorem w_prep_cons {b : Bool} {bs : List Bool} {x : Vx} {xs : List Vx} {Q : List Vx → En → Prop} : wM (mPrep (b :: bs) (x :: xs)) e Q = wM (mPrep1 b x) e fun y e1 => wM (mPrep bs xs) e1 fun ys e2 => Q (y :: ys) e2 := by
  show wM (mBind (mPrep1 b x) fun y => mBind (mPrep bs xs) fun ys => mRet (y :: ys)) e Q = _
  simp only [w_bind, w_ret]
@[simp] theorem w_prep_more {x : Vx} {xs : List Vx} {Q : List Vx → En → Prop} : wM (mPrep [] (x :: xs)) e Q = wM (mPrep1 false x) e fun y e1 => wM (mPrep [] xs) e1 fun ys e2 => Q (y :: ys) e2 := by
  show wM (mBind (mPrep1 false x) fun y => mBind (mPrep [] xs) fun ys => mRet (y :: ys)) e Q = _
  simp only [w_bind, w_ret]
@[simp] theorem w_prep1_t {i : Nat} : wM (mPrep1 true (.pl i)) e Q = Q (.pl i) e := by with_unfolding_all rfl
@[simp] theorem w_prep1_tv {d : D} : wM (mPrep1 true (.v d)) e Q = Q (.v d) e := by with_unfolding_all rfl
@[simp] theorem w_prep1_f {x : Vx} : wM (mPrep1 false x) e Q = wM (mVal x) e fun d e1 => Q (.v d) e1 := by
  cases x <;> (unfold mPrep1; simp only [w_bind, w_ret])
@[simp] theorem argSls_nil : argSls e [] = some [] := rfl
@[simp] theorem argSls_cons {x : Vx} {xs : List Vx} : argSls e (x :: xs) = (argSl e x).bind fun s => (argSls e xs).map (s :: ·) := by
  show (match argSl e x, argSls e xs with
    | some s, some ss => some (s :: ss)
    | _, _ => none) = _
  cases argSl e x with
  | none => rfl
  | some d => cases argSls e xs <;> with_unfolding_all rfl
@[simp] theorem argSl_v {d : D} : argSl e (.v d) = some (.fz d) := rfl
def lendS : Option Sl → Option Sl
  | some (Sl.ow d) => some (Sl.bo d)
  | some (Sl.bo d) => some (Sl.bo d)
  | some (Sl.fz d) => some (Sl.fz d)
  | _ => none
@[simp] theorem lendS_ow {d : D} : lendS (some (Sl.ow d)) = some (Sl.bo d) := rfl
@[simp] theorem lendS_bo {d : D} : lendS (some (Sl.bo d)) = some (Sl.bo d) := rfl
@[simp] theorem lendS_fz {d : D} : lendS (some (Sl.fz d)) = some (Sl.fz d) := rfl
@[simp] theorem argSl_pl {i : Nat} : argSl e (.pl i) = lendS e[i]? := by
  unfold argSl lendS
  dsimp only
  all_goals
    cases e[i]? with
    | none => rfl
    | some s => cases s <;> with_unfolding_all rfl
/-! slices -/
def wS3 (o : Option D) (lo hi : Option Int) (e : En) (Q : Vx → En → Prop) : Prop := match o with
  | some a => wO (dSl a lo hi) e Q
  | none => False
@[simp] theorem wS3_some {a : D} {lo hi : Option Int} : wS3 (some a) lo hi e Q = wO (dSl a lo hi) e Q := rfl
@[simp] theorem w_nopart {Q : Option Int → En → Prop} : wM mNoPart e Q = Q none e := by with_unfolding_all rfl
def wI (o : Option D) (e : En) (Q : Option Int → En → Prop) : Prop := match o with
  | some (.int i) => Q (some i) e
  | _ => False
@[simp] theorem wI_some {i : Int} {Q : Option Int → En → Prop} : wI (some (.int i)) e Q = Q (some i) e := rfl
@[simp] theorem w_part {Q : Option Int → En → Prop} : wM (mPart m) e Q = wM m e fun x e1 => wI (x.d e1) e1 Q := by
  unfold mPart
  rw [w_bind]
  congr 1
  funext x e1
  unfold wM wI
  try dsimp only
  cases x.d e1 with
  | none => rfl
  | some d => cases d <;> with_unfolding_all rfl
@[simp] theorem w_sl {lo hi : Mo (Option Int)} : wM (mSl dSl m lo hi) e Q = wM m e fun x e1 => wM lo e1 fun l e2 => wM hi e2 fun u e3 => wS3 (x.d e3) l u e3 Q := by
  unfold mSl
  simp only [w_bind]
  congr 1
  funext x e1
  congr 1
  funext l e2
  congr 1
  funext u e3
  unfold wM mSl1 wS3
  try dsimp only
  cases x.d e3 with
  | none => rfl
  | some a =>
    dsimp only
    cases dSl a l u <;> with_unfolding_all rfl
/-! methods -/
def wMt1 (f : D → List D → Option Vx) (o : Option D) (p : Option (List D)) (e : En) (Q : Vx → En → Prop) : Prop := match o, p with
  | some a, some b => wO (f a b) e Q
  | _, _ => False
@[simp] theorem wMt1_some {f : D → List D → Option Vx} {a : D} {b : List D} : wMt1 f (some a) (some b) e Q = wO (f a b) e Q := rfl
def chkD (T : String) : Option D → Bool
  | some d => plD d && tyD d == T
  | none => false
@[simp] theorem chkD_some {T : String} {d : D} : chkD T (some d) = (plD d && tyD d == T) := rfl
theorem chkT_d {T : String} {x : Vx} : chkT T x e = chkD T (x.d e) := by
  unfold chkT chkD
  cases x.d e <;> with_unfolding_all rfl
@[simp] theorem w_mt {T : String} {f : D → List D → Option Vx} : wM (mMt T f m mas) e Q = wM m e fun x e1 => chkD T (x.d e1) = true ∧ wM mas e1 fun xs e2 => wMt1 f (x.d e2) (Vx.ds e2 xs) e2 Q := by
  unfold mMt
  rw [w_bind]
  congr 1
  funext x e1
  rw [← chkT_d]
  have e0 : ∀ (c : Bool) (k : Mo Vx), wM (fun e => if c = true then k e else .stuck) e1 Q = (c = true ∧ wM k e1 Q) := fun c k => by
    cases c <;> simp [wM]
  show wM (fun e => if chkT T x e = true then mBind mas (fun xs => mMt1 f x xs) e else .stuck) e1 Q = _
  by_cases hc : chkT T x e1 = true
  · have : wM (fun e => if chkT T x e = true then mBind mas (fun xs => mMt1 f x xs) e else .stuck) e1 Q = wM (mBind mas fun xs => mMt1 f x xs) e1 Q := by
      unfold wM
      dsimp only
      rw [if_pos hc]
    rw [this, w_bind]
    simp only [hc, true_and]
    congr 1
    funext xs e2
    unfold wM mMt1 wMt1
    try dsimp only
    cases x.d e2 with
    | none => rfl
    | some a => cases Vx.ds e2 xs with
      | none => rfl
      | some b =>
        dsimp only
        cases f a b <;> with_unfolding_all rfl
  · have : wM (fun e => if chkT T x e = true then mBind mas (fun xs => mMt1 f x xs) e else .stuck) e1 Q = False := by
      unfold wM
      dsimp only
      rw [if_neg hc]
    rw [this]
    simp [hc]
/-- the object in slot i changes -/
def wMu (s : Option Sl) (i : Nat) (f : D → List D → Option (D × D)) (ds : List D) (e : En) (Q : Vx → En → Prop) : Prop := match s with
  | some (.ow d) => (match f d ds with
    | some (r, d') => Q (.v r) (e.set i (.ow d'))
    | none => False)
  | some (.bo d) => (match f d ds with
    | some (r, d') => Q (.v r) (e.set i (.bo d'))
    | none => False)
  | _ => False
theorem w_muts {i : Nat} {f : D → List D → Option (D × D)} {ds : List D} : wM (mutSl i f ds) e Q = wMu e[i]? i f ds e Q := by
  unfold wM mutSl wMu
  cases e[i]? with
  | none => rfl
  | some s => cases s with
    | ow d =>
      dsimp only
      cases f d ds <;> with_unfolding_all rfl
    | bo d =>
      dsimp only
      cases f d ds <;> with_unfolding_all rfl
    | _ => rfl
theorem wMu_ow {i : Nat} {f : D → List D → Option (D × D)} {ds : List D} {d r d' : D} (h : f d ds = some (r, d')) : wMu (some (.ow d)) i f ds e Q = Q (.v r) (e.set i (.ow d')) := by
  unfold wMu
  simp only [h]
theorem wMu_bo {i : Nat} {f : D → List D → Option (D × D)} {ds : List D} {d r d' : D} (h : f d ds = some (r, d')) : wMu (some (.bo d)) i f ds e Q = Q (.v r) (e.set i (.bo d')) := by
  unfold wMu
  simp only [h]
@[simp] theorem w_mut {T : String} {i : Nat} {f : D → List D → Option (D × D)} : wM (mMut T i f mas) e Q = wM (mVar i) e fun x e1 => chkD T (x.d e1) = true ∧ wM mas e1 fun xs e2 => wM (mVals xs) e2 fun ds e3 => wMu e3[i]? i f ds e3 Q := by
  unfold mMut
  rw [w_bind]
  congr 1
  funext x e1
  rw [← chkT_d]
  by_cases hc : chkT T x e1 = true
  · have : wM (fun e => if chkT T x e = true then mBind mas (fun xs => mBind (mVals xs) fun ds => mutSl i f ds) e else .stuck) e1 Q = wM (mBind mas fun xs => mBind (mVals xs) fun ds => mutSl i f ds) e1 Q := by
      unfold wM
      dsimp only
      rw [if_pos hc]
    rw [this]
    simp only [w_bind, w_muts, hc, true_and]
  · have : wM (fun e => if chkT T x e = true then mBind mas (fun xs => mBind (mVals xs) fun ds => mutSl i f ds) e else .stuck) e1 Q = False := by
      unfold wM
      dsimp only
      rw [if_neg hc]
    rw [this]
    simp [hc]
end
end Fw
set_option Elab.async false
set_option linter.all false
set_option maxRecDepth 100000
set_option maxHeartbeats 2000000
/-! Fw20: plain reasoning: statements, loops, comprehensions, defs. -/
namespace Fw
open PySem PySem.Spec PyProof.Rows L2
section
variable {e : En} {Q : Ed} {a b : So} {m ma : Mo Vx} {mas : Mo (List Vx)} {t : Mo Bool}
theorem w_sOf {α : Type} {m : Mo α} {k : α → So} : wS (sOf m k) e Q = wM m e fun x e1 => wS (k x) e1 Q := by
  unfold wS sOf wM
  cases m e <;> with_unfolding_all rfl
@[simp] theorem w_skip : wS sSkip e Q = Q.nx e := by with_unfolding_all rfl
@[simp] theorem w_seq : wS (sSeq a b) e Q = wS a e ⟨fun e' => wS b e' Q, Q.rt, Q.bk, Q.ct⟩ := by
  unfold wS sSeq
  cases a e <;> with_unfolding_all rfl
@[simp] theorem w_ifS : wS (sIf t a b) e Q = wM t e fun k e1 => if k = true then wS a e1 Q else wS b e1 Q := by
  unfold sIf
  rw [w_sOf]
  congr 1
  funext k e1
  cases k <;> with_unfolding_all rfl
def wPut (o : Option En) (Q : Ed) : Prop := match o with
  | some e => Q.nx e
  | none => False
@[simp] theorem wPut_some : wPut (some e) Q = Q.nx e := rfl
theorem w_oNx {f : En → Option En} : wS (fun e => oNx (f e)) e Q = wPut (f e) Q := by
  unfold wS wPut
  dsimp only
  cases f e <;> with_unfolding_all rfl
def putS (s : Option Sl) (i : Nat) (t : Sl) (e : En) : Option En := match s with
  | some (.bo _) => none
  | some _ => some (e.set i t)
  | none => none
@[simp] theorem putS_fz {i : Nat} {t : Sl} {d : D} : putS (some (.fz d)) i t e = some (e.set i t) := rfl
@[simp] theorem putS_ow {i : Nat} {t : Sl} {d : D} : putS (some (.ow d)) i t e = some (e.set i t) := rfl
@[simp] theorem putS_un {i : Nat} {t : Sl} : putS (some .un) i t e = some (e.set i t) := rfl
@[simp] theorem setSl_p {i : Nat} {t : Sl} : setSl i t e = putS e[i]? i t e := by
  unfold setSl putS
  cases e[i]? with
  | none => with_unfolding_all rfl
  | some s => cases s <;> with_unfolding_all rfl
def wSet (i : Nat) (x : Vx) (e : En) (Q : Ed) : Prop := match x with
  | .v d => wPut (setSl i (.fz d) e) Q
  | .nw d => wPut (setSl i (.ow d) e) Q
  | .pl j => wM (mVal (.pl j)) e fun d e1 => wPut (setSl i (.fz d) e1) Q
@[simp] theorem wSet_v {i : Nat} {d : D} : wSet i (.v d) e Q = wPut (setSl i (.fz d) e) Q := rfl
@[simp] theorem wSet_nw {i : Nat} {d : D} : wSet i (.nw d) e Q = wPut (setSl i (.ow d) e) Q := rfl
@[simp] theorem wSet_pl {i j : Nat} : wSet i (.pl j) e Q = wM (mVal (.pl j)) e fun d e1 => wPut (setSl i (.fz d) e1) Q := by with_unfolding_all rfl
@[simp] theorem w_set {i : Nat} : wS (sSet i m) e Q = wM m e fun x e1 => wSet i x e1 Q := by
  unfold sSet
  rw [w_sOf]
  congr 1
  funext x e1
  cases x with
  | v d => exact w_oNx (f := fun e => setSl i (.fz d) e)
  | nw d => exact w_oNx (f := fun e => setSl i (.ow d) e)
  | pl j =>
    show wS (sOf (mVal (.pl j)) fun d e => oNx (setSl i (.fz d) e)) e1 Q = _
    rw [w_sOf]
    unfold wSet
    congr 1
    funext d e2
    exact w_oNx (f := fun e => setSl i (.fz d) e)
def retS (s : Option Sl) (e : En) (Q : Ed) : Prop := match s with
  | some (.ow d) => Q.rt (.nw d) e
  | some (.fz d) => Q.rt (.v d) e
  | _ => False
@[simp] theorem retS_ow {d : D} : retS (some (.ow d)) e Q = Q.rt (.nw d) e := rfl
@[simp] theorem retS_fz {d : D} : retS (some (.fz d)) e Q = Q.rt (.v d) e := rfl
def wRet (x : Vx) (e : En) (Q : Ed) : Prop := match x with
  | .v d => Q.rt (.v d) e
  | .nw d => Q.rt (.nw d) e
  | .pl j => retS e[j]? e Q
@[simp] theorem wRet_v {d : D} : wRet (.v d) e Q = Q.rt (.v d) e := rfl
@[simp] theorem wRet_nw {d : D} : wRet (.nw d) e Q = Q.rt (.nw d) e := rfl
@[simp] theorem wRet_pl {j : Nat} : wRet (.pl j) e Q = retS e[j]? e Q := rfl
@[simp] theorem w_retS : wS (sRet m) e Q = wM m e fun x e1 => wRet x e1 Q := by
  unfold sRet
  rw [w_sOf]
  congr 1
  funext x e1
  cases x with
  | v d => with_unfolding_all rfl
  | nw d => with_unfolding_all rfl
  | pl j =>
    unfold wS wRet retS
    dsimp only
    cases e1[j]? with
    | none => with_unfolding_all rfl
    | some s => cases s <;> with_unfolding_all rfl
@[simp] theorem w_retN : wS sRetN e Q = Q.rt (.v .none) e := by with_unfolding_all rfl
@[simp] theorem w_drop : wS (sDrop m) e Q = wM m e fun _ e1 => Q.nx e1 := by
  unfold sDrop
  rw [w_sOf]
  with_unfolding_all rfl
@[simp] theorem w_brk : wS sBrk e Q = Q.bk e := by with_unfolding_all rfl
@[simp] theorem w_cnt : wS sCnt e Q = Q.ct e := by with_unfolding_all rfl
@[simp] theorem w_never : wS sNever e Q = False := by with_unfolding_all rfl
@[simp] theorem w_get {gm : D → En → Option En} : wS (sGet gm m) e Q = wM m e fun x e1 => wM (mVal x) e1 fun d e2 => wPut (gm d e2) Q := by
  unfold sGet
  rw [w_sOf]
  congr 1
  funext x e1
  rw [w_sOf]
  congr 1
  funext d e2
  exact w_oNx (f := fun e => gm d e)
@[simp] theorem gNm_s {i : Nat} {d : D} : gNm i d e = setSl i (.fz d) e := rfl
@[simp] theorem gNl_s : gNl [] e = some e := rfl
@[simp] theorem gCn_s {g : D → En → Option En} {r : List D → En → Option En} {d : D} {ds : List D} : gCn g r (d :: ds) e = (g d e).bind fun e1 => r ds e1 := by
  unfold gCn
  dsimp only
  cases g d e <;> with_unfolding_all rfl
@[simp] theorem gTpN_s {n : Nat} {g : List D → En → Option En} {ds : List D} : gTpN n g (.tuple ds) e = if ds.length = n then g ds e else none := rfl
@[simp] theorem w_consF {Q : List Vx → En → Prop} : wM (mConsF m mas) e Q = wM m e fun x e1 => wM (frz1 x) e1 fun y e2 => wM mas e2 fun xs e3 => Q (y :: xs) e3 := by
  unfold mConsF
  simp only [w_bind, w_ret]
@[simp] theorem w_frz_v {d : D} {Q : Vx → En → Prop} : wM (frz1 (.v d)) e Q = Q (.v d) e := by with_unfolding_all rfl
@[simp] theorem w_frz_nw {d : D} {Q : Vx → En → Prop} : wM (frz1 (.nw d)) e Q = Q (.nw d) e := by with_unfolding_all rfl
@[simp] theorem w_frz_pl {j : Nat} {Q : Vx → En → Prop} : wM (frz1 (.pl j)) e Q = wM (mVal (.pl j)) e fun d e1 => Q (.v d) e1 := by
  show wM (mBind (mVal (.pl j)) fun d => mRet (Vx.v d)) e Q = _
  simp only [w_bind, w_ret]
@[simp] theorem w_par {is : List Nat} : wS (sPar is mas) e Q = wM mas e fun xs e1 => wPut (putSl is xs e1) Q := by
  unfold sPar
  rw [w_sOf]
  congr 1
  funext xs e1
  exact w_oNx (f := fun e => putSl is xs e)
@[simp] theorem putSl_nil : putSl [] [] e = some e := rfl
@[simp] theorem putSl_v {i : Nat} {is : List Nat} {d : D} {xs : List Vx} : putSl (i :: is) (.v d :: xs) e = (setSl i (.fz d) e).bind fun e1 => putSl is xs e1 := by
  show (match setSl i (.fz d) e with
    | some e' => putSl is xs e'
    | none => none) = _
  cases setSl i (.fz d) e <;> with_unfolding_all rfl
@[simp] theorem putSl_nw {i : Nat} {is : List Nat} {d : D} {xs : List Vx} : putSl (i :: is) (.nw d :: xs) e = (setSl i (.ow d) e).bind fun e1 => putSl is xs e1 := by
  show (match setSl i (.ow d) e with
    | some e' => putSl is xs e'
    | none => none) = _
  cases setSl i (.ow d) e <;> with_unfolding_all rfl
@[simp] theorem w_setIx {T : String} {j : Nat} {f : D → List D → Option (D × D)} : wS (sSetIx T j f m ma) e Q = wM ma e fun x e1 => wM (mVal x) e1 fun d e2 => wM (mVar j) e2 fun _ e3 => wM m e3 fun y e4 => wM (mVal y) e4 fun k e5 => wMu e5[j]? j f [k, d] e5 fun _ e6 => Q.nx e6 := by
  unfold sSetIx
  rw [w_sOf]
  congr 1
  funext x e1
  rw [w_sOf]
  congr 1
  funext d e2
  rw [w_sOf]
  congr 1
  funext _ e3
  rw [w_sOf]
  congr 1
  funext y e4
  rw [w_sOf]
  congr 1
  funext k e5
  rw [w_sOf, w_muts]
  with_unfolding_all rfl
/-! what is walked -/
def wIt (o : Option (List D)) (e : En) (Q : List D → En → Prop) : Prop := match o with
  | some ds => Q ds e
  | none => False
@[simp] theorem wIt_some {ds : List D} {Q : List D → En → Prop} : wIt (some ds) e Q = Q ds e := rfl
@[simp] theorem w_it {Q : List D → En → Prop} : wM (mIt m) e Q = wM m e fun x e1 => wM (mVal x) e1 fun d e2 => wIt (itD d) e2 Q := by
  unfold mIt
  simp only [w_bind]
  congr 1
  funext x e1
  congr 1
  funext d e2
  unfold wM wIt
  dsimp only
  cases itD d <;> with_unfolding_all rfl
@[simp] theorem itD_list {ds : List D} : itD (.list ds) = some ds := rfl
@[simp] theorem itD_tuple {ds : List D} : itD (.tuple ds) = some ds := rfl
@[simp] theorem itD_str {z : Str} : itD (.str z) = some (signsD z) := rfl
@[simp] theorem w_itA {f : List D → Option (List D)} {Q : List D → En → Prop} : wM (mItA f mas) e Q = wM mas e fun xs e1 => wIt ((Vx.ds e1 xs).bind f) e1 Q := by
  unfold mItA
  simp only [w_bind]
  congr 1
  funext x e1
  unfold wM wIt
  dsimp only
  cases Vx.ds e1 x with
  | none => with_unfolding_all rfl
  | some ds =>
    show _ = match f ds with
      | some ds => Q ds e1
      | none => False
    dsimp only
    cases f ds <;> with_unfolding_all rfl
def wZip (ds : List D) (e : En) (Q : List D → En → Prop) : Prop := match ds with
  | [a, b] => wIt ((itD a).bind fun as => (itD b).map fun bs => zipD as bs) e Q
  | _ => False
@[simp] theorem wZip_two {a b : D} {Q : List D → En → Prop} : wZip [a, b] e Q = wIt ((itD a).bind fun as => (itD b).map fun bs => zipD as bs) e Q := rfl
@[simp] theorem w_zip {Q : List D → En → Prop} : wM (mZip m ma) e Q = wM (mCons m (mCons ma mNil)) e fun xs e1 => wM (mVals xs) e1 fun ds e2 => wZip ds e2 Q := by
  unfold mZip
  simp only [w_bind]
  congr 1
  funext xs e1
  congr 1
  funext ds e2
  match ds with
  | [] => with_unfolding_all rfl
  | [a] => with_unfolding_all rfl
  | a :: b :: d :: r => with_unfolding_all rfl
  | [a, b] =>
    unfold wM wZip wIt
    dsimp only
    cases itD a with
    | none => with_unfolding_all rfl
    | some as => cases itD b <;> with_unfolding_all rfl
def wEnm (ds : List D) (e : En) (Q : List D → En → Prop) : Prop := match ds with
  | [a] => wIt ((itD a).map fun as => enumD 0 as) e Q
  | _ => False
@[simp] theorem wEnm_one {a : D} {Q : List D → En → Prop} : wEnm [a] e Q = wIt ((itD a).map fun as => enumD 0 as) e Q := rfl
@[simp] theorem w_enum {Q : List D → En → Prop} : wM (mEnum m) e Q = wM (mCons m mNil) e fun xs e1 => wM (mVals xs) e1 fun ds e2 => wEnm ds e2 Q := by
  unfold mEnum
  simp only [w_bind]
  congr 1
  funext xs e1
  congr 1
  funext ds e2
  match ds with
  | [] => with_unfolding_all rfl
  | a :: b :: r => with_unfolding_all rfl
  | [a] =>
    unfold wM wEnm wIt
    dsimp only
    cases itD a <;> with_unfolding_all rfl
/-! loops -/
theorem w_for {gm : D → En → Option En} {mi : Mo (List D)} : wS (sFor gm mi b) e Q = wM mi e fun ds e1 => wS (forL gm b ds) e1 Q := by
  unfold sFor
  rw [w_sOf]
@[simp] theorem for_nil {gm : D → En → Option En} : wS (forL gm b []) e Q = Q.nx e := by with_unfolding_all rfl
theorem for_cons {gm : D → En → Option En} {d : D} {ds : List D} {e1 : En} (h : gm d e = some e1) : wS (forL gm b (d :: ds)) e Q = wS b e1 ⟨fun e2 => wS (forL gm b ds) e2 Q, Q.rt, Q.nx, fun e2 => wS (forL gm b ds) e2 Q⟩ := by
  unfold wS
  rw [forL]
  rw [h]
  dsimp only
  cases b e1 <;> with_unfolding_all rfl
/-- a loop by an invariant -/
theorem for_inv {gm : D → En → Option En} {ds : List D} (I : Nat → En → Prop) (h0 : I 0 e) (hs : ∀ i d e, ds[i]? = some d → I i e → ∃ e1, gm d e = some e1 ∧ wS b e1 ⟨I (i + 1), Q.rt, Q.nx, I (i + 1)⟩) (hn : ∀ e, I ds.length e → Q.nx e) : wS (forL gm b ds) e Q := by
  induction ds generalizing e I with
  | nil =>
    rw [for_nil]
    exact hn e h0
  | cons d ds ih =>
    obtain ⟨e1, g1, g2⟩ := hs 0 d e rfl h0
    rw [for_cons g1]
    refine g2.mono (fun e h => ?_) (fun _ _ h => h) (fun _ h => h) fun e h => ?_
    all_goals exact ih (fun i => I (i + 1)) h (fun i d e hd hi => hs (i + 1) d e hd hi) fun e he => hn e he
/-! comprehensions -/
theorem wM.get {α : Type} {m : Mo α} {e : En} {Q : α → En → Prop} (h : wM m e Q) : ∃ a e1, m e = .ok a e1 ∧ Q a e1 := by
  unfold wM at h
  split at h
  · rename_i a e1 hm
    exact ⟨a, e1, hm, h⟩
  · exact h.elim
theorem lc_inv {vs : List Nat} {gm : D → En → Option En} {mi : Mo (List D)} {mt : Mo Bool} {me : Mo Vx} {Q : Vx → En → Prop}
    (h : wM mi e fun ds e1 => ownOk e1 vs = true ∧ ∃ I : Nat → List D → En → Prop, I 0 [] (wipeE e1 vs) ∧
      (∀ i d acc e, ds[i]? = some d → I i acc e → ∃ e2, gm d e = some e2 ∧ wM mt e2 fun c e3 => if c = true then wM me e3 fun x e4 => wM (mVal x) e4 fun y e5 => acc.length < sizeLine ∧ I (i + 1) (acc ++ [y]) (wipeE e5 vs) else I (i + 1) acc (wipeE e3 vs)) ∧
      ∀ acc e, I ds.length acc e → Q (.nw (.list acc)) (restE e1 e vs)) : wM (mLc vs gm mi mt me) e Q := by
  have key : ∀ (ds acc : List D) (e : En) (I : Nat → List D → En → Prop) (R : List D → En → Prop), I 0 acc e →
      (∀ i d acc e, ds[i]? = some d → I i acc e → ∃ e2, gm d e = some e2 ∧ wM mt e2 fun c e3 => if c = true then wM me e3 fun x e4 => wM (mVal x) e4 fun y e5 => acc.length < sizeLine ∧ I (i + 1) (acc ++ [y]) (wipeE e5 vs) else I (i + 1) acc (wipeE e3 vs)) →
      (∀ acc e, I ds.length acc e → R acc e) → ∃ acc' e', lcL vs gm mt me ds acc e = .ok acc' e' ∧ R acc' e' := by
    intro ds
    induction ds with
    | nil => intro acc e I R h0 _ hn; exact ⟨acc, e, rfl, hn acc e h0⟩
    | cons d ds ih =>
      intro acc e I R h0 hs hn
      obtain ⟨e2, g1, g2⟩ := hs 0 d acc e rfl h0
      rw [lcL, g1]
      dsimp only
      unfold wM at g2
      split at g2
      · rename_i c e3 hc
        rw [hc]
        cases c with
        | false =>
          simp only [Bool.false_eq_true, if_false] at g2
          exact ih acc _ (fun i => I (i + 1)) R g2 (fun i d acc e hd hi => hs (i + 1) d acc e hd hi) fun acc e he => hn acc e he
        | true =>
          simp only [if_true] at g2
          dsimp only
          split at g2
          · rename_i x e4 hx
            rw [hx]
            dsimp only
            split at g2
            · rename_i y e5 hy
              rw [hy]
              dsimp only
              rw [if_pos g2.1]
              exact ih _ _ (fun i => I (i + 1)) R g2.2 (fun i d acc e hd hi => hs (i + 1) d acc e hd hi) fun acc e he => hn acc e he
            · exact g2.elim
          · exact g2.elim
      · exact g2.elim
  obtain ⟨ds, e1, hm, ho, I, h0, hs, hn⟩ := h.get
  unfold wM mLc
  rw [mBind_ok hm, if_pos ho]
  obtain ⟨acc', e', h1, h2⟩ := key ds [] _ I (fun acc e => Q (.nw (.list acc)) (restE e1 e vs)) h0 hs hn
  rw [h1]
  exact h2
end
/-! defs -/
/-- what a def gives -/
def edF (as : List Sl) (Q : Vx → List Sl → Prop) : Ed := ⟨fun e => Q (.v .none) (fnOuts as e), fun x e => Q x (fnOuts as e), fun _ => False, fun _ => False⟩
theorem w_def {p n : Nat} {m : So} {as : List Sl} {Q : Vx → List Sl → Prop} (h1 : as.length = p) (h : wS m (as ++ List.replicate (n - as.length) .un) (edF as Q)) : wF (mDef p n m) as Q := by
  unfold wF mDef
  rw [if_pos h1]
  unfold mFn
  unfold wS at h
  split at h <;> simp_all [edF]
end Fw
set_option Elab.async false
set_option linter.all false
set_option maxRecDepth 100000
set_option maxHeartbeats 2000000
/-! Fw21: what the operations give, for simp. -/
namespace Fw
open PySem PySem.Spec PyProof.Rows L2
section
variable {e : En} {Q : Vx → En → Prop}
@[simp] theorem wO_ite {c : Prop} [Decidable c] {z : Vx} : wO (if c then some z else none) e Q = (c ∧ Q z e) := by
  by_cases h : c <;> simp [h]
@[simp] theorem wO_ite' {c : Prop} [Decidable c] {z : Vx} : wO (if c then none else some z) e Q = (¬ c ∧ Q z e) := by
  by_cases h : c <;> simp [h]
/-- an object's change -/
def wP (o : Option (D × D)) (k : D → D → Prop) : Prop := match o with
  | some (r, d') => k r d'
  | none => False
@[simp] theorem wP_some {r d : D} {k : D → D → Prop} : wP (some (r, d)) k = k r d := rfl
@[simp] theorem wP_ite {c : Prop} [Decidable c] {z : D × D} {k : D → D → Prop} : wP (if c then some z else none) k = (c ∧ k z.1 z.2) := by
  by_cases h : c <;> simp [h, wP]
@[simp] theorem wP_ite' {c : Prop} [Decidable c] {z : D × D} {k : D → D → Prop} : wP (if c then none else some z) k = (¬ c ∧ k z.1 z.2) := by
  by_cases h : c <;> simp [h, wP]
@[simp] theorem wP_map {α : Type} {o : Option α} {f : α → D × D} {k : D → D → Prop} : wP (o.map f) k = ∃ a, o = some a ∧ k (f a).1 (f a).2 := by
  cases o <;> simp [wP]
@[simp] theorem wMu_ow' {i : Nat} {f : D → List D → Option (D × D)} {ds : List D} {d : D} : wMu (some (.ow d)) i f ds e Q = wP (f d ds) fun r d' => Q (.v r) (e.set i (.ow d')) := by
  unfold wMu wP
  dsimp only
  all_goals cases f d ds <;> rfl
@[simp] theorem wMu_bo' {i : Nat} {f : D → List D → Option (D × D)} {ds : List D} {d : D} : wMu (some (.bo d)) i f ds e Q = wP (f d ds) fun r d' => Q (.v r) (e.set i (.bo d')) := by
  unfold wMu wP
  dsimp only
  all_goals cases f d ds <;> rfl
@[simp] theorem fAppend_l {xs : List D} {d : D} : fAppend (.list xs) [d] = if xs.length < sizeLine then some (.none, .list (xs ++ [d])) else none := rfl
@[simp] theorem fInsert_l {xs : List D} {i : Int} {d : D} : fInsert (.list xs) [.int i, d] = if xs.length < sizeLine ∧ 0 ≤ i ∧ i < 2 ^ 63 then some (.none, .list (xs.take i.toNat ++ [d] ++ xs.drop i.toNat)) else none := rfl
@[simp] theorem fPop_l {xs : List D} : fPop (.list xs) [] = (xs[xs.length - 1]?).map fun d => (d, .list xs.dropLast) := rfl
@[simp] theorem fSetL_l {xs : List D} {i : Int} {d : D} : fSetL (.list xs) [.int i, d] = (ixN xs.length i).map fun j => (.none, .list (xs.set j d)) := rfl
theorem ixN_nat {n k : Nat} (h : k < n) : ixN n (k : Int) = some k := by
  unfold ixN
  rw [if_pos (Int.natCast_nonneg k), if_pos (by omega), Int.toNat_natCast]
@[simp] theorem ixN_0 {n : Nat} : ixN (n + 1) 0 = some 0 := ixN_nat (k := 0) (by omega)
@[simp] theorem ixN_1 {n : Nat} : ixN (n + 1 + 1) 1 = some 1 := ixN_nat (k := 1) (by omega)
@[simp] theorem ixN_20 : ixN 2 0 = some 0 := rfl
@[simp] theorem ixN_21 : ixN 2 1 = some 1 := rfl
@[simp] theorem fo_bo {d d' : D} {as es : List Sl} : fnOuts (.bo d :: as) (.bo d' :: es) = .bo d' :: fnOuts as es := rfl
@[simp] theorem fo_fz {d : D} {s : Sl} {as es : List Sl} : fnOuts (.fz d :: as) (s :: es) = .un :: fnOuts as es := by cases s <;> rfl
@[simp] theorem fo_nil {es : List Sl} : fnOuts [] es = [] := by cases es <;> rfl
@[simp] theorem bo_fz {d : D} {as os : List Sl} : backsOk (.fz d :: as) (.un :: os) = backsOk as os := by cases as <;> rfl
@[simp] theorem bo_bo {d d' : D} {as os : List Sl} : backsOk (.bo d :: as) (.bo d' :: os) = backsOk as os := rfl
@[simp] theorem bo_nil : backsOk [] [] = true := rfl
@[simp] theorem po_nil : plsOk [] = true := rfl
@[simp] theorem po_v {d : D} {xs : List Vx} : plsOk (.v d :: xs) = plsOk xs := rfl
@[simp] theorem po_pl {i : Nat} {xs : List Vx} : plsOk (.pl i :: xs) = (!hasPl i xs && plsOk xs) := rfl
@[simp] theorem hp_nil {i : Nat} : hasPl i [] = false := rfl
@[simp] theorem hp_v {i : Nat} {d : D} {xs : List Vx} : hasPl i (.v d :: xs) = hasPl i xs := rfl
@[simp] theorem hp_pl {i j : Nat} {xs : List Vx} : hasPl i (.pl j :: xs) = (i == j || hasPl i xs) := rfl
@[simp] theorem ip_v {d : D} : (Vx.v d).isP = false := rfl
@[simp] theorem ip_nw {d : D} : (Vx.nw d).isP = false := rfl
@[simp] theorem wO_map {α : Type} {o : Option α} {f : α → Vx} : wO (o.map f) e Q = ∃ a, o = some a ∧ Q (f a) e := by
  cases o <;> simp [wO]
@[simp] theorem sl16 : sizeLine = 16777216 := sizeLine_eq
@[simp] theorem dAdd_i {i j : Int} : dAdd (.int i) (.int j) = some (.v (.int (i + j))) := rfl
@[simp] theorem dAdd_s {i j : Str} : dAdd (.str i) (.str j) = if i.length + j.length ≤ sizeLine then some (.v (.str (i ++ j))) else none := rfl
@[simp] theorem dAdd_l {i j : List D} : dAdd (.list i) (.list j) = if i.length + j.length ≤ sizeLine then some (.nw (.list (i ++ j))) else none := rfl
@[simp] theorem dAdd_t {i j : List D} : dAdd (.tuple i) (.tuple j) = if i.length + j.length ≤ sizeLine then some (.v (.tuple (i ++ j))) else none := rfl
@[simp] theorem dSub_i {i j : Int} : dSub (.int i) (.int j) = some (.v (.int (i - j))) := rfl
@[simp] theorem dMul_i {i j : Int} : dMul (.int i) (.int j) = if (-(2 ^ 64) < i ∧ i < 2 ^ 64) ∨ (-(2 ^ 64) < j ∧ j < 2 ^ 64) then some (.v (.int (i * j))) else none := rfl
@[simp] theorem dMul_l {xs : List D} {k : Int} : dMul (.list xs) (.int k) = if -(2 ^ 63) ≤ k ∧ k < 2 ^ 63 ∧ xs.length * k.toNat ≤ sizeLine then some (.nw (.list (List.replicate k.toNat xs).flatten)) else none := rfl
@[simp] theorem dMul_t {xs : List D} {k : Int} : dMul (.tuple xs) (.int k) = if 2 ≤ k ∧ k ≤ 1000 ∧ xs.length ≤ 1000 then some (.v (.tuple (List.replicate k.toNat xs).flatten)) else none := rfl
@[simp] theorem dDiv_i {i j : Int} : dDiv (.int i) (.int j) = if j ≠ 0 ∧ j.natAbs < 1073741824 then some (.v (.int (i.fdiv j))) else none := rfl
@[simp] theorem dMod_i {i j : Int} : dMod (.int i) (.int j) = if j ≠ 0 then some (.v (.int (i.fmod j))) else none := rfl
@[simp] theorem dPow_i {i j : Int} : dPow (.int i) (.int j) = if 0 ≤ j ∧ j ≤ 1000000 ∧ i.natAbs < 2 ^ 64 then some (.v (.int (i ^ j.toNat))) else none := rfl
@[simp] theorem dNeg_i {i : Int} : dNeg (.int i) = some (.v (.int (-i))) := rfl
@[simp] theorem dIx_l {ds : List D} {i : Int} : dIx (.list ds) (.int i) = (atI ds i).map .v := rfl
@[simp] theorem dIx_t {ds : List D} {i : Int} : dIx (.tuple ds) (.int i) = (atI ds i).map .v := rfl
@[simp] theorem dIx_s {z : Str} {i : Int} : dIx (.str z) (.int i) = if z.length ≤ sizeLine then (atI z.cps.toList i).map fun c => .v (.str ⟨#[c]⟩) else none := rfl
@[simp] theorem wO_ix_s {c : Prop} [Decidable c] {α : Type} {o : Option α} {f : α → Vx} : wO (if c then o.map f else none) e Q = (c ∧ ∃ a, o = some a ∧ Q (f a) e) := by
  by_cases h : c <;> cases o <;> simp [h, wO]
theorem atI_nn {α : Type} {l : List α} {i : Int} (h : 0 ≤ i) : atI l i = l[i.toNat]? := by
  unfold atI ixN
  rw [if_pos h]
  by_cases hl : i < l.length
  · rw [if_pos hl] <;> rfl
  · rw [if_neg hl]
    exact (List.getElem?_eq_none (by omega)).symm
theorem atI_nat {α : Type} {l : List α} {i : Nat} : atI l (i : Int) = l[i]? := by
  rw [atI_nn (Int.natCast_nonneg i), Int.toNat_natCast]
@[simp] theorem atI_0 {α : Type} {l : List α} : atI l 0 = l[0]? := atI_nn (by omega)
@[simp] theorem atI_1 {α : Type} {l : List α} : atI l 1 = l[1]? := atI_nn (by omega)
@[simp] theorem atI_2 {α : Type} {l : List α} : atI l 2 = l[2]? := atI_nn (by omega)
@[simp] theorem atI_3 {α : Type} {l : List α} : atI l 3 = l[3]? := atI_nn (by omega)
theorem atI_m1 {α : Type} {l : List α} : atI l (-1) = l[l.length - 1]? := by
  unfold atI ixN
  rw [if_neg (by omega)]
  by_cases hl : -(l.length : Int) ≤ -1
  · rw [if_pos hl]
    show l[((-1 : Int) + l.length).toNat]? = _
    have e : ((-1 : Int) + l.length).toNat = l.length - 1 := by omega
    rw [e]
  · rw [if_neg hl]
    have h0 : l.length = 0 := by omega
    rw [List.length_eq_zero_iff.mp h0]
    rfl
@[simp] theorem dSl_l {ds : List D} {lo hi : Option Int} : dSl (.list ds) lo hi = some (.nw (.list (cutD ds lo hi))) := rfl
@[simp] theorem dSl_t {ds : List D} {lo hi : Option Int} : dSl (.tuple ds) lo hi = some (.v (.tuple (cutD ds lo hi))) := rfl
@[simp] theorem dSl_s {z : Str} {lo hi : Option Int} : dSl (.str z) lo hi = if z.length ≤ sizeLine then some (.v (.str (cutS z lo hi))) else none := rfl
@[simp] theorem dRev_l {ds : List D} : dRev (.list ds) = some (.nw (.list ds.reverse)) := rfl
@[simp] theorem dRev_t {ds : List D} : dRev (.tuple ds) = some (.v (.tuple ds.reverse)) := rfl
/-! built-ins -/
@[simp] theorem dLen_l {ds : List D} : dLen [.list ds] = some (.v (.int ds.length)) := rfl
@[simp] theorem dLen_t {ds : List D} : dLen [.tuple ds] = some (.v (.int ds.length)) := rfl
@[simp] theorem dLen_s {z : Str} : dLen [.str z] = if z.length ≤ sizeLine then some (.v (.int z.length)) else none := rfl
@[simp] theorem dList_l {ds : List D} : dList [.list ds] = some (.nw (.list ds)) := rfl
@[simp] theorem dList_t {ds : List D} : dList [.tuple ds] = some (.nw (.list ds)) := rfl
@[simp] theorem dList_s {ns : List Int} : dList [scrD ns] = some (.nw (.list (ns.map .int))) := rfl
@[simp] theorem dTup_l {ds : List D} : dTup [.list ds] = some (.v (.tuple ds)) := rfl
@[simp] theorem dTup_t {ds : List D} : dTup [.tuple ds] = some (.v (.tuple ds)) := rfl
@[simp] theorem dStr_i {i : Int} : dStr [.int i] = if i.natAbs.log2 < 1920 then some (.v (.str (toString i))) else none := rfl
@[simp] theorem dStr_s {z : Str} : dStr [.str z] = some (.v (.str z)) := rfl
@[simp] theorem dInt_i {i : Int} : dInt [.int i] = some (.v (.int i)) := rfl
@[simp] theorem dAbs_i {i : Int} : dAbs [.int i] = some (.v (.int (if i < 0 then -i else i))) := rfl
@[simp] theorem dAll_l {ds : List D} : dAll [.list ds] = (boolsD ds).map fun bs => .v (.bool (bs.all id)) := rfl
@[simp] theorem dAny_l {ds : List D} : dAny [.list ds] = (boolsD ds).map fun bs => .v (.bool (bs.any id)) := rfl
@[simp] theorem boolsD_map {α : Type} {f : α → Bool} : ∀ {l : List α}, boolsD (l.map fun x => PyData.bool (f x)) = some (l.map f)
  | [] => rfl
  | a :: l => by
    show (boolsD (l.map fun x => PyData.bool (f x))).map (f a :: ·) = _
    rw [boolsD_map]
    rfl
@[simp] theorem dSorted_l {ds : List D} : dSorted [.list ds] = if sortOk ds = true then some (.nw (.list (sortD ds))) else none := rfl
@[simp] theorem dSorted_t {ds : List D} : dSorted [.tuple ds] = if sortOk ds = true then some (.nw (.list (sortD ds))) else none := rfl
/-! comparisons -/
@[simp] theorem opB_o {f : D → D → Option Bool} {a b : D} : opB f a b = (f a b).map fun c => .v (.bool c) := rfl
@[simp] theorem dO_i {p : Int → Int → Bool} {q : Str → Str → Bool} {i j : Int} : dO p q (.int i) (.int j) = some (p i j) := rfl
@[simp] theorem dO_s {p : Int → Int → Bool} {q : Str → Str → Bool} {i j : Str} : dO p q (.str i) (.str j) = some (q i j) := rfl
@[simp] theorem wO_eq {a b : D} : wO ((dEq a b).map fun c => .v (.bool c)) e Q = ((((flatD a && flatD b) || layD a b) = true) ∧ Q (.v (.bool (PyData.eqv a b))) e) := by
  unfold dEq
  split <;> simp_all
@[simp] theorem wO_ne {a b : D} : wO ((dNe a b).map fun c => .v (.bool c)) e Q = ((((flatD a && flatD b) || layD a b) = true) ∧ Q (.v (.bool (!PyData.eqv a b))) e) := by
  unfold dNe dEq
  split <;> simp_all
@[simp] theorem dIs_n {a : D} : dIs a .none = some (isNone a) := by cases a <;> rfl
@[simp] theorem dIs_b {i j : Bool} : dIs (.bool i) (.bool j) = some (decide (i = j)) := rfl
end
def putO (s : Sl) (o : Option D) : Sl := match o with
  | some d => s.withO d
  | none => s
@[simp] theorem putO_n {s : Sl} : putO s none = s := rfl
@[simp] theorem putO_ow {d d2 : D} : putO (.ow d) (some d2) = .ow d2 := rfl
@[simp] theorem putO_bo {d d2 : D} : putO (.bo d) (some d2) = .bo d2 := rfl
@[simp] theorem backs_e {e : En} {xs : List Vx} {outs : List Sl} : backs e xs outs = e.mapIdx fun j s => putO s (findPl j xs outs) := rfl
@[simp] theorem findPl_0 {j : Nat} {os : List Sl} : findPl j [] os = none := rfl
@[simp] theorem findPl_v {j : Nat} {d : D} {xs : List Vx} {o : Sl} {os : List Sl} : findPl j (.v d :: xs) (o :: os) = findPl j xs os := rfl
@[simp] theorem findPl_p {i j : Nat} {d : D} {xs : List Vx} {os : List Sl} : findPl j (.pl i :: xs) (.bo d :: os) = if i = j then some d else findPl j xs os := rfl
end Fw
set_option Elab.async false
set_option linter.all false
set_option maxRecDepth 100000
set_option maxHeartbeats 2000000
/-! Fw22: what the laws share: the draws. -/
namespace Fw
open PySem PySem.Spec PyProof.Rows L2
/-- the draws' state -/
def CupOk (d : D) : Prop := ∃ a b : Int, d = .list [.int a, .int b] ∧ 0 ≤ a ∧ 0 ≤ b ∧ b < 2 ^ 40
def cupM (c1 c2 c3 c4 c5 : Int) : So := (sSeq (sSet 1 (mCb dAbs (mCons (mOp dIx (mOp dAdd (mCb dList (mCons (mVar 0) mNil)) (mLst (mCons (mC (.int 0)) mNil))) (mC (.int 0))) mNil))) (sSeq (sRet (mLst (mCons (mIf (mTst (mOp (opB dGeX) (mVar 1) (mOp dPow (mC (.int 10)) (mC (.int 18))))) (mOp dDiv (mVar 1) (mC (.int c1))) (mC (.int 0))) (mCons (mOp dAdd (mOp dMod (mCb dInt (mCons (mOp dAdd (mOp dMul (mVar 1) (mC (.int c2))) (mC (.int c3))) mNil)) (mC (.int c4))) (mC (.int c5))) mNil)))) sSkip))
def rollM (c1 c2 c3 c4 c5 c6 : Int) : So := (sSeq (sIf (mTst (mOp (opB dGtX) (mOp dIx (mVar 0) (mC (.int 0))) (mC (.int 0)))) (sSeq (sSet 2 (mOp dMod (mCb dInt (mCons (mOp dIx (mVar 0) (mC (.int 0))) mNil)) (mVar 1))) (sSeq (sSetIx "list" 0 fSetL (mC (.int 0)) (mOp dDiv (mOp dIx (mVar 0) (mC (.int 0))) (mVar 1))) (sSeq (sRet (mVar 2)) sSkip))) sSkip) (sSeq (sSetIx "list" 0 fSetL (mC (.int 1)) (mOp dMod (mCb dInt (mCons (mOp dAdd (mOp dMul (mOp dIx (mVar 0) (mC (.int 1))) (mC (.int c1))) (mC (.int c2))) mNil)) (mC (.int c3)))) (sSeq (sSet 3 (mOp dMod (mCb dInt (mCons (mOp dMul (mOp dIx (mVar 0) (mC (.int 1))) (mOp dAdd (mOp dIx (mVar 0) (mC (.int 1))) (mC (.int c4)))) mNil)) (mC (.int c5)))) (sSeq (sRet (mOp dMod (mCb dInt (mCons (mOp dDiv (mVar 3) (mC (.int c6))) mNil)) (mVar 1))) sSkip))))
theorem cup_gen {c1 c2 c3 c4 c5 : Int} (h1 : 0 < c1 ∧ c1 < 1000) (h2 : 0 < c2 ∧ c2 < 1000000) (h4 : 0 < c4 ∧ c4 < 2 ^ 39) (h5 : 0 ≤ c5 ∧ c5 < 100000) {ns : List Int} (hl : ns.length ≤ 63) : wF (mDef 1 2 (cupM c1 c2 c3 c4 c5)) [.fz (scrD ns)] fun x o => (∃ d, x = .nw d ∧ CupOk d) ∧ o = [.un] := by
  refine w_def rfl ?_
  have hc1 : c1 ≠ 0 := by omega
  have hc4 : c4 ≠ 0 := by omega
  have hb : ∀ x : Int, 0 ≤ x.fmod c4 + c5 ∧ x.fmod c4 + c5 < 2 ^ 40 := fun x => by
    have h6 := Int.fmod_nonneg_of_pos x h4.1
    have h7 := Int.fmod_lt_of_pos x h4.1
    omega
  have ok : ∀ (a x : Int), 0 ≤ a → CupOk (.list [.int a, .int (x.fmod c4 + c5)]) := fun a x ha => ⟨a, _, rfl, ha, (hb x).1, (hb x).2⟩
  have hd : ∀ x : Int, 1000000000000000000 ≤ x → 0 ≤ x.fdiv c1 := fun x hx => Int.fdiv_nonneg (by omega) (by omega)
  have hm : ∀ x : Int, (-18446744073709551616 < x ∧ x < 18446744073709551616) ∨ -18446744073709551616 < c2 ∧ c2 < 18446744073709551616 := fun x => .inr (by omega)
  cases ns with
  | nil =>
    simp [cupM, edF, hc4, hm]
    exact ok _ _ (by omega)
  | cons a l =>
    have hl2 : l.length + 1 ≤ 63 := hl
    simp [cupM, edF, hc1, hc4, hm]
    refine ⟨by omega, ?_⟩
    (repeat' split) <;> first
      | exact ⟨by omega, ok _ _ (hd _ (by assumption))⟩
      | exact ok _ _ (by omega)
theorem roll_gen {c1 c2 c3 c4 c5 c6 : Int} (h1 : 0 < c1 ∧ c1 < 1000000) (h3 : 0 < c3 ∧ c3 < 2 ^ 39) (h5 : 0 < c5 ∧ c5 < 2 ^ 39) (h6 : 0 < c6 ∧ c6 < 100000) (h4 : 0 ≤ c4 ∧ c4 < 100000) {c : D} (hc : CupOk c) {n : Int} (hn : 0 < n) (hn2 : n < 2 ^ 29) :
    wF (mDef 2 4 (rollM c1 c2 c3 c4 c5 c6)) [.bo c, .fz (.int n)] fun x o => ∃ (r : Int) (c' : D), x = .v (.int r) ∧ 0 ≤ r ∧ r < n ∧ CupOk c' ∧ o = [.bo c', .un] := by
  obtain ⟨a, b, rfl, ha, hb, hb2⟩ := hc
  refine w_def rfl ?_
  have hn0 : n ≠ 0 := by omega
  simp [rollM, edF, hn0]
  have q1 := Int.fmod_nonneg_of_pos (b * c1 + c2) h3.1
  have q2 := Int.fmod_lt_of_pos (b * c1 + c2) h3.1
  split
  · exact ⟨by omega, Int.fmod_nonneg_of_pos _ hn, Int.fmod_lt_of_pos _ hn, _, b, rfl, Int.fdiv_nonneg ha (by omega), hb, hb2⟩
  · exact ⟨.inr (by omega), by omega, .inl (by omega), by omega, by omega, Int.fmod_nonneg_of_pos _ hn, Int.fmod_lt_of_pos _ hn, a, _, rfl, ha, q1, by omega⟩
def RollOk (f : Fn) : Prop := ∀ c, CupOk c → ∀ n : Int, 0 < n → n < 2 ^ 29 → wF f [.bo c, .fz (.int n)] fun x o => ∃ (r : Int) (c' : D), x = .v (.int r) ∧ 0 ≤ r ∧ r < n ∧ CupOk c' ∧ o = [.bo c', .un]
def SeqD (t : D) (ds : List D) : Prop := t = .list ds ∨ t = .tuple ds
def SomeOk (f : Fn) : Prop := ∀ c, CupOk c → ∀ (t : D) (ds : List D), SeqD t ds → ds ≠ [] → ds.length ≤ 1000 → wF f [.bo c, .fz t] fun x o => ∃ (d : D) (c' : D), x = .v d ∧ d ∈ ds ∧ CupOk c' ∧ o = [.bo c', .un]
def someM (roll : Fn) : So := (sSeq (sRet (mOp dIx (mVar 1) (mCall [true] roll (mCons (mVar 0) (mCons (mCb dLen (mCons (mVar 1) mNil)) mNil))))) sSkip)
theorem some_gen {roll : Fn} (hr : RollOk roll) : SomeOk (mDef 2 2 (someM roll)) := by
  intro c hc t ds ht hne hl
  have hpos : 0 < ds.length := List.length_pos_iff.mpr hne
  obtain ⟨n, hn⟩ : ∃ n : Int, n = ds.length := ⟨_, rfl⟩
  have key : wF roll [.bo c, .fz (.int n)] fun x o => ∃ (r : Int) (c' : D) (d : D), x = .v (.int r) ∧ atI ds r = some d ∧ d ∈ ds ∧ CupOk c' ∧ o = [.bo c', .un] := by
    refine (hr c hc n (by omega) (by omega)).mono ?_
    rintro x o ⟨r, c', rfl, h0, h1, hc', rfl⟩
    have hlt : r.toNat < ds.length := by omega
    refine ⟨r, c', ds[r.toNat], rfl, ?_, List.getElem_mem hlt, hc', rfl⟩
    rw [atI_nn h0, List.getElem?_eq_getElem hlt]
  refine w_def rfl ?_
  rcases ht with rfl | rfl
  · simp [someM, edF, ← hn]
    refine key.mono ?_
    rintro x o ⟨r, c', d, rfl, h1, h2, h3, rfl⟩
    simp [h1]
    exact ⟨h2, h3⟩
  · simp [someM, edF, ← hn]
    refine key.mono ?_
    rintro x o ⟨r, c', d, rfl, h1, h2, h3, rfl⟩
    simp [h1]
    exact ⟨h2, h3⟩
end Fw
set_option Elab.async false
set_option linter.all false
set_option maxRecDepth 100000
set_option maxHeartbeats 2000000
/-! Fw23: comprehensions that change nothing; names. -/
namespace Fw
open PySem PySem.Spec PyProof.Rows L2
@[simp] theorem flatD_s {z : Str} : flatD (.str z) = true := rfl
@[simp] theorem flatD_i {z : Int} : flatD (.int z) = true := rfl
@[simp] theorem flatD_b {z : Bool} : flatD (.bool z) = true := rfl
@[simp] theorem flatD_n : flatD .none = true := rfl
@[simp] theorem flatD_l {xs : List D} : flatD (.list xs) = false := rfl
@[simp] theorem flatD_t {xs : List D} : flatD (.tuple xs) = false := rfl
@[simp] theorem eqv_s {a b : Str} : PyData.eqv (.str a) (.str b) = (a == b) := by unfold PyData.eqv; rfl
@[simp] theorem eqv_i {a b : Int} : PyData.eqv (.int a) (.int b) = (a == b) := by unfold PyData.eqv; rfl
@[simp] theorem eqv_l {a b : List D} : PyData.eqv (.list a) (.list b) = PyData.eqvAll a b := by unfold PyData.eqv; rfl
@[simp] theorem eqv_t {a b : List D} : PyData.eqv (.tuple a) (.tuple b) = PyData.eqvAll a b := by unfold PyData.eqv; rfl
@[simp] theorem eqvAll_0 : PyData.eqvAll [] [] = true := by unfold PyData.eqvAll; rfl
@[simp] theorem eqvAll_c {x y : D} {xs ys : List D} : PyData.eqvAll (x :: xs) (y :: ys) = (PyData.eqv x y && PyData.eqvAll xs ys) := by rw [PyData.eqvAll]
@[simp] theorem eqvAll_0c {y : D} {ys : List D} : PyData.eqvAll [] (y :: ys) = false := by unfold PyData.eqvAll; rfl
@[simp] theorem eqvAll_c0 {y : D} {ys : List D} : PyData.eqvAll (y :: ys) [] = false := by unfold PyData.eqvAll; rfl
@[simp] theorem wipeE_0 {e : En} : wipeE e [] = e := rfl
@[simp] theorem wipeE_c {e : En} {i : Nat} {vs : List Nat} : wipeE e (i :: vs) = (wipeE e vs).set i .un := rfl
@[simp] theorem restE_0 {e eN : En} : restE e eN [] = eN := rfl
@[simp] theorem restE_c {e eN : En} {i : Nat} {vs : List Nat} : restE e eN (i :: vs) = (restE e eN vs).set i ((e[i]?).getD .un) := rfl
@[simp] theorem ownOk_0 {e : En} : ownOk e [] = true := rfl
def ownS : Option Sl → Bool
  | some .un => true
  | some (.fz _) => true
  | _ => false
@[simp] theorem ownS_un : ownS (some .un) = true := rfl
@[simp] theorem ownS_fz {d : D} : ownS (some (.fz d)) = true := rfl
@[simp] theorem ownOk_c {e : En} {i : Nat} {vs : List Nat} : ownOk e (i :: vs) = (ownS e[i]? && ownOk e vs) := by
  unfold ownOk
  rw [List.all_cons]
  rfl
theorem lc_fm {e : En} {vs : List Nat} {gm : D → En → Option En} {mi : Mo (List D)} {mt : Mo Bool} {me : Mo Vx} {Q : Vx → En → Prop}
    (h : wM mi e fun ds e1 => ownOk e1 vs = true ∧ ds.length ≤ 16777215 ∧ ∃ f : D → Option D, (∀ d, d ∈ ds → ∃ e2, gm d (wipeE e1 vs) = some e2 ∧ wM mt e2 fun c e3 => if c = true then wM me e3 fun x e4 => wM (mVal x) e4 fun y e5 => f d = some y ∧ wipeE e5 vs = wipeE e1 vs else f d = none ∧ wipeE e3 vs = wipeE e1 vs) ∧
      Q (.nw (.list (ds.filterMap f))) (restE e1 (wipeE e1 vs) vs)) : wM (mLc vs gm mi mt me) e Q := by
  refine lc_inv (h.mono ?_)
  rintro ds e1 ⟨h1, h2, f, h3, h4⟩
  refine ⟨h1, fun i acc e => e = wipeE e1 vs ∧ acc = (ds.take i).filterMap f ∧ acc.length ≤ i, ⟨rfl, by simp, by simp⟩, ?_, ?_⟩
  · rintro i d acc e hd ⟨rfl, rfl, hl⟩
    obtain ⟨e2, g1, g2⟩ := h3 d (List.mem_of_getElem? hd)
    have hi : i < ds.length := (List.getElem?_eq_some_iff.mp hd).1
    have ht : ds.take (i + 1) = ds.take i ++ [d] := by
      rw [List.take_succ, hd]
      rfl
    refine ⟨e2, g1, g2.mono fun c e3 q => ?_⟩
    cases c with
    | true =>
      simp only [if_true] at q ⊢
      refine q.mono fun x e4 q => q.mono fun y e5 q => ?_
      obtain ⟨q1, q2⟩ := q
      refine ⟨by rw [sizeLine_eq]; omega, q2, ?_, by simp; exact hl⟩
      rw [ht, List.filterMap_append]
      simp [q1]
    | false =>
      simp only [Bool.false_eq_true, if_false] at q ⊢
      refine ⟨q.2, ?_, Nat.le_succ_of_le hl⟩
      rw [ht, List.filterMap_append]
      simp [q.1]
  · rintro acc e ⟨rfl, rfl, _⟩
    rw [List.take_length]
    exact h4
theorem fm_map {α β : Type} {f : α → Option β} {g : α → β} : ∀ {l : List α}, (∀ a, a ∈ l → f a = some (g a)) → l.filterMap f = l.map g
  | [], _ => rfl
  | a :: l, h => by
    rw [List.filterMap_cons, h a List.mem_cons_self, fm_map fun b hb => h b (List.mem_cons_of_mem _ hb)]
    rfl
/-- the signs of the names -/
def sufs : List Str := ["", "a", "ab", "b", "b1", "c", "z9", "z", "q", "x", "x1", "m", "n", "t", "w"]
def namesM (some : Fn) : So := (sSeq (sPar [3, 4] (mConsF (mLc [6] (gNm 6) (mIt (mLst (mCons (mC (.str "")) (mCons (mC (.str "a")) (mCons (mC (.str "ab")) (mCons (mC (.str "b")) (mCons (mC (.str "b1")) (mCons (mC (.str "c")) (mCons (mC (.str "z9")) (mCons (mC (.str "z")) (mCons (mC (.str "q")) (mCons (mC (.str "x")) (mCons (mC (.str "x1")) (mCons (mC (.str "m")) (mCons (mC (.str "n")) (mCons (mC (.str "t")) (mCons (mC (.str "w")) mNil))))))))))))))))) (mRet true) (mOp dAdd (mVar 2) (mVar 6))) (mConsF (mLst mNil) mNil))) (sSeq (sFor (gNm 5) (mRng1 (mCons (mVar 1) mNil)) (sSeq (sDrop (mMut "list" 4 fAppend (mCons (mCall [true] some (mCons (mVar 0) (mCons (mVar 3) mNil))) mNil))) (sSeq (sSet 3 (mLc [6] (gNm 6) (mIt (mVar 3)) (mTst (mOp (opB dNe) (mVar 6) (mOp dIx (mVar 4) (mUn dNeg (mC (.int 1)))))) (mVar 6))) sSkip))) (sSeq (sRet (mVar 4)) sSkip)))
def NamesOk (f : Fn) : Prop := ∀ c, CupOk c → ∀ (mz : Int) (many : Nat) (first : Str), mz = many → many ≤ 14 → first.length ≤ 1000 → wF f [.bo c, .fz (.int mz), .fz (.str first)] fun x o => ∃ (ns : List Str) (c' : D), x = .nw (.list (ns.map .str)) ∧ ns.length = many ∧ ns.Nodup ∧ (∀ n ∈ ns, n ∈ sufs.map (first ++ ·)) ∧ CupOk c' ∧ o = [.bo c', .un, .un]
theorem pool_spec {e : En} {Q : List D → En → Prop} : wM (mIt (mLst (mCons (mC (.str "")) (mCons (mC (.str "a")) (mCons (mC (.str "ab")) (mCons (mC (.str "b")) (mCons (mC (.str "b1")) (mCons (mC (.str "c")) (mCons (mC (.str "z9")) (mCons (mC (.str "z")) (mCons (mC (.str "q")) (mCons (mC (.str "x")) (mCons (mC (.str "x1")) (mCons (mC (.str "m")) (mCons (mC (.str "n")) (mCons (mC (.str "t")) (mCons (mC (.str "w")) mNil))))))))))))))))) e Q = Q (sufs.map .str) e := by
  simp [sufs, sizeLine_eq]
def preS (first : Str) : D → Option D
  | .str t => some (.str (first ++ t))
  | _ => none
theorem preS_fm {first : Str} : ∀ {l : List Str}, (l.map PyData.str).filterMap (preS first) = (l.map (first ++ ·)).map .str
  | [] => rfl
  | a :: l => by
    simp only [List.map_cons, List.filterMap_cons, preS, preS_fm]
theorem suf_n : sufs.length = 15 := rfl
theorem strD_inj {a b : Str} (h : PyData.str a = .str b) : a = b := by injection h
theorem app_inj {p a b : Str} (h : p ++ a = p ++ b) : a = b := by
  have h' : (p ++ a).cps = (p ++ b).cps := by rw [h]
  have h2 : p.cps ++ a.cps = p.cps ++ b.cps := h'
  have h3 := Array.append_right_inj p.cps |>.mp h2
  cases a; cases b; simp_all
theorem suf_len : ∀ s ∈ sufs, s.length ≤ 2 := by decide
theorem suf_nd : sufs.Nodup := by decide
def poolM : Mo (List D) := mIt (mLst (mCons (mC (.str "")) (mCons (mC (.str "a")) (mCons (mC (.str "ab")) (mCons (mC (.str "b")) (mCons (mC (.str "b1")) (mCons (mC (.str "c")) (mCons (mC (.str "z9")) (mCons (mC (.str "z")) (mCons (mC (.str "q")) (mCons (mC (.str "x")) (mCons (mC (.str "x1")) (mCons (mC (.str "m")) (mCons (mC (.str "n")) (mCons (mC (.str "t")) (mCons (mC (.str "w")) mNil))))))))))))))))
theorem poolM_spec {e : En} {Q : List D → En → Prop} : wM poolM e Q = Q (sufs.map .str) e := pool_spec
theorem pool_lc {c : D} {mz : Int} {first : Str} {Q : Vx → En → Prop} (hf : first.length ≤ 1000)
    (h : ∀ pool : List Str, pool.Nodup → pool.length = 15 → (∀ n ∈ pool, n ∈ sufs.map (first ++ ·)) → Q (.nw (.list (pool.map .str))) [.bo c, .fz (.int mz), .fz (.str first), .un, .un, .un, .un]) :
    wM (mLc [6] (gNm 6) poolM (mRet true) (mOp dAdd (mVar 2) (mVar 6))) [.bo c, .fz (.int mz), .fz (.str first), .un, .un, .un, .un] Q := by
  refine lc_fm ?_
  rw [poolM_spec]
  refine ⟨by simp, by rw [List.length_map, suf_n]; omega, preS first, ?_, ?_⟩
  · intro d hd
    obtain ⟨t, ht, rfl⟩ := List.mem_map.mp hd
    have := suf_len t ht
    refine ⟨_, rfl, ?_⟩
    simp [preS]
    omega
  rw [preS_fm]
  refine h _ ?_ ?_ fun n h => h
  · exact List.Pairwise.map _ (fun a b h h2 => h (app_inj h2)) suf_nd
  · rw [List.length_map, suf_n]
def namesT (some : Fn) : So := sSeq (sFor (gNm 5) (mRng1 (mCons (mVar 1) mNil)) (sSeq (sDrop (mMut "list" 4 fAppend (mCons (mCall [true] some (mCons (mVar 0) (mCons (mVar 3) mNil))) mNil))) (sSeq (sSet 3 (mLc [6] (gNm 6) (mIt (mVar 3)) (mTst (mOp (opB dNe) (mVar 6) (mOp dIx (mVar 4) (mUn dNeg (mC (.int 1)))))) (mVar 6))) sSkip))) (sSeq (sRet (mVar 4)) sSkip)
theorem rng0_get {n i : Nat} {d : D} (h : (rngD 0 n)[i]? = some d) : d = .int i ∧ i < n := by
  unfold rngD at h
  rw [List.getElem?_map] at h
  cases hk : (List.range n)[i]? with
  | none => rw [hk] at h; simp at h
  | some k =>
    rw [hk] at h
    have := List.getElem?_eq_some_iff.mp hk
    obtain ⟨h1, h2⟩ := this
    simp at h1 h2 h
    subst h2
    exact ⟨h.symm, h1⟩
theorem rng_len {j : Int} {n : Nat} : (rngD j n).length = n := by simp [rngD]
theorem itR1_nat {n : Nat} (h : n < 2 ^ 62) : itR1 [.int (n : Int)] = some (rngD 0 n) := by
  simp [itR1]
  omega
theorem w_itA1 {f : List D → Option (List D)} {a : Sl} {r : En} {d : D} {Q : List D → En → Prop} : wM (mItA f (mCons (mVar 1) mNil)) (a :: .fz d :: r) Q = wIt (f [d]) (a :: .fz d :: r) Q := by
  simp
theorem w_rng1v {a : Sl} {r : En} {mz : Int} {n : Nat} {Q : List D → En → Prop} (hz : mz = n) (h : n < 2 ^ 62) : wM (mRng1 (mCons (mVar 1) mNil)) (a :: .fz (.int mz) :: r) Q = Q (rngD 0 n) (a :: .fz (.int mz) :: r) := by
  have h1 := itR1_nat h
  rw [← hz] at h1
  refine Eq.trans (w_itA1 (f := itR1)) ?_
  rw [h1, wIt_some]
theorem pl_strs {l : List Str} : plD (.list (l.map .str)) = true := rfl
theorem filter_ne_self {z : Str} : ∀ {l : List Str}, z ∉ l → l.filter (· ≠ z) = l
  | [], _ => rfl
  | a :: l, h => by
    simp at h
    rw [List.filter_cons_of_pos (by simp; exact fun q => h.1 q.symm), filter_ne_self h.2]
theorem nodup_erase_len {z : Str} : ∀ {l : List Str}, l.Nodup → z ∈ l → (l.filter (· ≠ z)).length + 1 = l.length
  | [], _, h => nomatch h
  | a :: l, h, m => by
    obtain ⟨h1, h2⟩ := List.nodup_cons.mp h
    by_cases q : a = z
    · subst q
      rw [List.filter_cons_of_neg (by simp), filter_ne_self h1]
      rfl
    · rw [List.filter_cons_of_pos (by simpa using q)]
      have := nodup_erase_len h2 (by
        rcases List.mem_cons.mp m with r | r
        · exact absurd r.symm q
        · exact r)
      simp only [List.length_cons]
      omega
structure NmI (pool : List Str) (mz : Int) (first : Str) (i : Nat) (e : En) : Prop where
  ex : ∃ (c : D) (rest out : List Str) (s3 s : Sl), e = [.bo c, .fz (.int mz), .fz (.str first), s3, .ow (.list (out.map .str)), s, .un] ∧ (s3 = .ow (.list (rest.map .str)) ∨ s3 = .fz (.list (rest.map .str))) ∧ (s = .un ∨ ∃ d, s = .fz d) ∧ CupOk c ∧ out.length = i ∧ out.Nodup ∧ rest.Nodup ∧ (∀ n ∈ out, n ∈ pool) ∧ (∀ n ∈ rest, n ∈ pool) ∧ (∀ n ∈ out, n ∉ rest) ∧ rest.length + i = 15
def neS (z : Str) : D → Option D
  | .str t => if t = z then none else some (.str t)
  | _ => none
theorem neS_fm {z : Str} : ∀ {l : List Str}, (l.map PyData.str).filterMap (neS z) = (l.filter (· ≠ z)).map .str
  | [] => rfl
  | a :: l => by
    by_cases h : a = z
    · simp [neS, h, neS_fm]
    · simp [neS, h, neS_fm]
@[simp] theorem atI_last {α : Type} {l : List α} {d : α} : atI (l ++ [d]) (-1) = some d := by
  rw [atI_m1]
  simp
theorem rest_lc {c : D} {mz : Int} {first : Str} {rest out : List Str} {s : Sl} {z : Str} {Q : Vx → En → Prop} (hl : rest.length ≤ 15)
    (h : Q (.nw (.list ((rest.filter (· ≠ z)).map .str))) [.bo c, .fz (.int mz), .fz (.str first), .fz (.list (rest.map .str)), .ow (.list (out.map .str ++ [.str z])), s, .un]) :
    wM (mLc [6] (gNm 6) (mIt (mVar 3)) (mTst (mOp (opB dNe) (mVar 6) (mOp dIx (mVar 4) (mUn dNeg (mC (.int 1)))))) (mVar 6)) [.bo c, .fz (.int mz), .fz (.str first), .fz (.list (rest.map .str)), .ow (.list (out.map .str ++ [.str z])), s, .un] Q := by
  refine lc_fm ?_
  simp [itD]
  refine ⟨by omega, neS z, ?_, ?_⟩
  · intro d hd
    by_cases q : d = z
    · left
      simp [neS, q, dNe, dEq]
    · right
      simp [neS, q, dNe, dEq]
  · rw [← List.filterMap_map, neS_fm]
    exact h
theorem namesT_spec {some : Fn} (hs : SomeOk some) {c : D} (hc : CupOk c) {mz : Int} {many : Nat} (hz : mz = many) {first : Str} (hm : many ≤ 14) {pool : List Str} (hn : pool.Nodup) (hl : pool.length = 15) {Q : Vx → En → Prop}
    (h : ∀ (c : D) (ns : List Str) (s1 s2 s3 s4 : Sl), CupOk c → ns.length = many → ns.Nodup → (∀ n ∈ ns, n ∈ pool) → Q (.nw (.list (ns.map .str))) [.bo c, .fz (.int mz), .fz (.str first), s1, s2, s3, s4]) :
    wS (namesT some) [.bo c, .fz (.int mz), .fz (.str first), .ow (.list (pool.map .str)), .ow (.list []), .un, .un] ⟨fun _ => False, Q, fun _ => False, fun _ => False⟩ := by
  have h62 : many < 2 ^ 62 := by omega
  simp only [namesT, w_seq, w_for]
  rw [w_rng1v hz h62]
  refine for_inv (NmI pool mz first) ⟨c, pool, [], _, .un, rfl, .inl rfl, .inl rfl, hc, rfl, List.nodup_nil, hn, by simp, fun n h => h, by simp, by omega⟩ ?_ ?_
  · rintro i d e hd ⟨c, rest, out, s3, s, rfl, hs3, hs5, hc, h1, h2, h3, h4, h5, h6, h7⟩
    obtain ⟨rfl, hi⟩ := rng0_get hd
    refine ⟨[.bo c, .fz (.int mz), .fz (.str first), s3, .ow (.list (out.map .str)), .fz (.int i), .un], by rcases hs5 with rfl | ⟨d, rfl⟩ <;> rfl, ?_⟩
    clear hs5
    rcases hs3 with rfl | rfl
    all_goals
    simp
    refine ⟨⟨pl_strs, rfl⟩, ?_⟩
    refine (hs c hc (.list (rest.map .str)) (rest.map .str) (.inl rfl) (by simp; rintro rfl; simp at h7; omega) (by simp; omega)).mono ?_
    rintro x o ⟨d, c', rfl, hd', hc', rfl⟩
    obtain ⟨z, hz, rfl⟩ := List.mem_map.mp hd'
    simp
    refine ⟨by omega, rest_lc (by omega) ?_⟩
    simp
    refine ⟨c', rest.filter (· ≠ z), out ++ [z], .ow (.list ((rest.filter (· ≠ z)).map .str)), .fz (.int i), by simp, .inl rfl, .inr ⟨_, rfl⟩, hc', by simp [h1], ?_, h3.filter _, ?_, ?_, ?_, ?_⟩
    · rw [List.nodup_append]
      refine ⟨h2, by simp, ?_⟩
      rintro a ha b hb rfl
      simp at hb
      subst hb
      exact h6 _ ha hz
    · intro n hn
      rcases List.mem_append.mp hn with hn | hn
      · exact h4 n hn
      · simp at hn
        subst hn
        exact h5 _ hz
    · intro n hn
      exact h5 n ((List.mem_filter.mp hn).1)
    · intro n hn hn2
      rcases List.mem_append.mp hn with hn | hn
      · exact h6 n hn ((List.mem_filter.mp hn2).1)
      · simp at hn
        subst hn
        simp at hn2
    · have := nodup_erase_len h3 hz
      omega
  · rintro e ⟨c, rest, out, s3, s, rfl, hs3, hs5, hc, h1, h2, h3, h4, h5, h6, h7⟩
    simp
    rw [rng_len] at h1
    exact h c out _ _ _ _ hc h1 h2 h4

theorem namesM_eq {some : Fn} : namesM some = sSeq (sPar [3, 4] (mConsF (mLc [6] (gNm 6) poolM (mRet true) (mOp dAdd (mVar 2) (mVar 6))) (mConsF (mLst mNil) mNil))) (namesT some) := rfl
def NmQ (mz : Int) (many : Nat) (first : Str) (pool : List Str) (x : Vx) (e : En) : Prop := ∃ (c : D) (ns : List Str) (s1 s2 s3 s4 : Sl), x = (.nw (.list (ns.map .str))) ∧ e = [.bo c, .fz (.int mz), .fz (.str first), s1, s2, s3, s4] ∧ CupOk c ∧ ns.length = many ∧ ns.Nodup ∧ (∀ n ∈ ns, n ∈ pool)
theorem namesT_NmQ {some : Fn} (hs : SomeOk some) {c : D} (hc : CupOk c) {mz : Int} {many : Nat} (hz : mz = many) {first : Str} (hm : many ≤ 14) {pool : List Str} (hn : pool.Nodup) (hl : pool.length = 15) :
    wS (namesT some) [.bo c, .fz (.int mz), .fz (.str first), .ow (.list (pool.map .str)), .ow (.list []), .un, .un] ⟨fun _ => False, NmQ mz many first pool, fun _ => False, fun _ => False⟩ :=
  namesT_spec hs hc hz hm hn hl (Q := NmQ mz many first pool) fun c ns s1 s2 s3 s4 h1 h2 h3 h4 => ⟨c, ns, s1, s2, s3, s4, rfl, rfl, h1, h2, h3, h4⟩
theorem names_pre {some : Fn} {c : D} {mz : Int} {first : Str} (hf : first.length ≤ 1000) {Q : Ed}
    (h : ∀ pool : List Str, pool.Nodup → pool.length = 15 → (∀ n ∈ pool, n ∈ sufs.map (first ++ ·)) → wS (namesT some) [.bo c, .fz (.int mz), .fz (.str first), .ow (.list (pool.map .str)), .ow (.list []), .un, .un] Q) :
    wS (namesM some) [.bo c, .fz (.int mz), .fz (.str first), .un, .un, .un, .un] Q := by
  rw [namesM_eq]
  generalize namesT some = m at h ⊢
  simp only [w_seq, w_par, w_consF]
  refine pool_lc hf fun pool hnd hlen hp => ?_
  simp
  exact h pool hnd hlen hp
theorem names_gen {some : Fn} (hs : SomeOk some) : NamesOk (mDef 3 7 (namesM some)) := by
  intro c hc mz many first hz hm hf
  refine w_def rfl ?_
  refine names_pre hf fun pool hnd hlen hp => ?_
  have k := namesT_NmQ hs hc hz (first := first) hm hnd hlen
  generalize namesT some = m at k ⊢
  refine wS.mono k (fun _ h => h.elim) ?_ (fun _ h => h) (fun _ h => h)
  rintro x e ⟨c', ns, s1, s2, s3, s4, rfl, rfl, h1, h2, h3, h4⟩
  exact ⟨ns, c', rfl, h2, h3, fun n hn => hp n (h4 n hn), h1, rfl⟩
end Fw
set_option Elab.async false
set_option linter.all false
set_option maxRecDepth 100000
set_option maxHeartbeats 2000000
/-! Fw24: more rules for plain reasoning: kinds, signs, small data. -/
namespace Fw
open PySem PySem.Spec PyProof.Rows L2
def isD (n : String) (d : D) : Bool := if n = "int" then (tyD d == "int" || tyD d == "bool") else tyD d == n
@[simp] theorem pl_s {z : Str} : plD (.str z) = true := rfl
@[simp] theorem pl_i {z : Int} : plD (.int z) = true := rfl
@[simp] theorem pl_b {z : Bool} : plD (.bool z) = true := rfl
@[simp] theorem pl_n : plD .none = true := rfl
@[simp] theorem pl_l {z : List D} : plD (.list z) = true := rfl
@[simp] theorem pl_t {z : List D} : plD (.tuple z) = true := rfl
@[simp] theorem ty_s {z : Str} : tyD (.str z) = "str" := rfl
@[simp] theorem ty_i {z : Int} : tyD (.int z) = "int" := rfl
@[simp] theorem ty_b {z : Bool} : tyD (.bool z) = "bool" := rfl
@[simp] theorem ty_n : tyD .none = "NoneType" := rfl
@[simp] theorem ty_l {z : List D} : tyD (.list z) = "list" := rfl
@[simp] theorem ty_t {z : List D} : tyD (.tuple z) = "tuple" := rfl
theorem isi_s {d : D} (h : plD d = true) : isiT "str" d = some (.v (.bool (tyD d == "str"))) := by simp [isiT, h]
theorem isi_b {d : D} (h : plD d = true) : isiT "bool" d = some (.v (.bool (tyD d == "bool"))) := by simp [isiT, h]
theorem isi_t {d : D} (h : plD d = true) : isiT "tuple" d = some (.v (.bool (tyD d == "tuple"))) := by simp [isiT, h]
theorem isi_i {d : D} (h : plD d = true) : isiT "int" d = some (.v (.bool (tyD d == "int" || tyD d == "bool"))) := by simp [isiT, h]
@[simp] theorem isi_int_s {z : Str} : isiT "int" (.str z) = some (.v (.bool false)) := by rw [isi_i pl_s]; rfl
@[simp] theorem isi_int_i {z : Int} : isiT "int" (.int z) = some (.v (.bool true)) := by rw [isi_i pl_i]; rfl
@[simp] theorem isi_int_b {z : Bool} : isiT "int" (.bool z) = some (.v (.bool true)) := by rw [isi_i pl_b]; rfl
@[simp] theorem isi_int_n : isiT "int" (.none) = some (.v (.bool false)) := by rw [isi_i pl_n]; rfl
@[simp] theorem isi_int_l {z : List D} : isiT "int" (.list z) = some (.v (.bool false)) := by rw [isi_i pl_l]; rfl
@[simp] theorem isi_int_t {z : List D} : isiT "int" (.tuple z) = some (.v (.bool false)) := by rw [isi_i pl_t]; rfl
@[simp] theorem isi_bool_s {z : Str} : isiT "bool" (.str z) = some (.v (.bool false)) := by rw [isi_b pl_s]; rfl
@[simp] theorem isi_bool_i {z : Int} : isiT "bool" (.int z) = some (.v (.bool false)) := by rw [isi_b pl_i]; rfl
@[simp] theorem isi_bool_b {z : Bool} : isiT "bool" (.bool z) = some (.v (.bool true)) := by rw [isi_b pl_b]; rfl
@[simp] theorem isi_bool_n : isiT "bool" (.none) = some (.v (.bool false)) := by rw [isi_b pl_n]; rfl
@[simp] theorem isi_bool_l {z : List D} : isiT "bool" (.list z) = some (.v (.bool false)) := by rw [isi_b pl_l]; rfl
@[simp] theorem isi_bool_t {z : List D} : isiT "bool" (.tuple z) = some (.v (.bool false)) := by rw [isi_b pl_t]; rfl
@[simp] theorem isi_str_s {z : Str} : isiT "str" (.str z) = some (.v (.bool true)) := by rw [isi_s pl_s]; rfl
@[simp] theorem isi_str_i {z : Int} : isiT "str" (.int z) = some (.v (.bool false)) := by rw [isi_s pl_i]; rfl
@[simp] theorem isi_str_b {z : Bool} : isiT "str" (.bool z) = some (.v (.bool false)) := by rw [isi_s pl_b]; rfl
@[simp] theorem isi_str_n : isiT "str" (.none) = some (.v (.bool false)) := by rw [isi_s pl_n]; rfl
@[simp] theorem isi_str_l {z : List D} : isiT "str" (.list z) = some (.v (.bool false)) := by rw [isi_s pl_l]; rfl
@[simp] theorem isi_str_t {z : List D} : isiT "str" (.tuple z) = some (.v (.bool false)) := by rw [isi_s pl_t]; rfl
@[simp] theorem isi_tuple_s {z : Str} : isiT "tuple" (.str z) = some (.v (.bool false)) := by rw [isi_t pl_s]; rfl
@[simp] theorem isi_tuple_i {z : Int} : isiT "tuple" (.int z) = some (.v (.bool false)) := by rw [isi_t pl_i]; rfl
@[simp] theorem isi_tuple_b {z : Bool} : isiT "tuple" (.bool z) = some (.v (.bool false)) := by rw [isi_t pl_b]; rfl
@[simp] theorem isi_tuple_n : isiT "tuple" (.none) = some (.v (.bool false)) := by rw [isi_t pl_n]; rfl
@[simp] theorem isi_tuple_l {z : List D} : isiT "tuple" (.list z) = some (.v (.bool false)) := by rw [isi_t pl_l]; rfl
@[simp] theorem isi_tuple_t {z : List D} : isiT "tuple" (.tuple z) = some (.v (.bool true)) := by rw [isi_t pl_t]; rfl
@[simp] theorem dIn_s {i j : Str} : dIn (.str i) (.str j) = some (strIn i j) := rfl
@[simp] theorem itD_l {ds : List D} : itD (.list ds) = some ds := rfl
@[simp] theorem itD_t {ds : List D} : itD (.tuple ds) = some ds := rfl
@[simp] theorem itD_s {z : Str} : itD (.str z) = some (signsD z) := rfl
def smS (z : Str) : Bool := decide (z.length ≤ 1000) && PyData.canLay0 (.str z)
theorem smS_len {z : Str} (h : smS z = true) : z.length ≤ 1000 := of_decide_eq_true (Bool.and_eq_true_iff.mp h).1
theorem smS_ok {z : Str} (h : smS z = true) : PyData.canLay0 (.str z) = true := (Bool.and_eq_true_iff.mp h).2
/-- small data: at most so deep, no dict -/
def sm : Nat → D → Bool
  | _, .none => true
  | _, .bool _ => true
  | _, .int _ => true
  | _, .str z => smS z
  | n + 1, .list ds => decide (ds.length ≤ 1000) && ds.all (sm n)
  | n + 1, .tuple ds => decide (ds.length ≤ 1000) && ds.all (sm n)
  | _, _ => false
@[simp] theorem sm_n {n : Nat} : sm n .none = true := by cases n <;> rfl
@[simp] theorem sm_b {n : Nat} {b : Bool} : sm n (.bool b) = true := by cases n <;> rfl
@[simp] theorem sm_i {n : Nat} {b : Int} : sm n (.int b) = true := by cases n <;> rfl
@[simp] theorem sm_s {n : Nat} {z : Str} : sm n (.str z) = smS z := by cases n <;> rfl
@[simp] theorem sm_l {n : Nat} {ds : List D} : sm (n + 1) (.list ds) = (decide (ds.length ≤ 1000) && ds.all (sm n)) := rfl
@[simp] theorem sm_t {n : Nat} {ds : List D} : sm (n + 1) (.tuple ds) = (decide (ds.length ≤ 1000) && ds.all (sm n)) := rfl
@[simp] theorem sm_l0 {ds : List D} : sm 0 (.list ds) = false := rfl
@[simp] theorem sm_t0 {ds : List D} : sm 0 (.tuple ds) = false := rfl
@[simp] theorem sm_d {n : Nat} {ds : List (D × D)} : sm n (.dict ds) = false := by cases n <;> rfl
theorem sm_pl {n : Nat} {d : D} (h : sm n d = true) : plD d = true := by
  cases d with
  | dict ps => simp at h
  | _ => rfl
theorem lay_all {ds : List D} : (∀ d, d ∈ ds → d.canLay0 = true) → PyData.canLayAll0 ds = true := by
  induction ds with
  | nil => intro _; unfold PyData.canLayAll0; rfl
  | cons d ds ih =>
    intro h
    rw [PyData.canLayAll0, h d List.mem_cons_self, ih fun x hx => h x (List.mem_cons_of_mem _ hx)]
    rfl
theorem dep_all {ds : List D} {n : Nat} : (∀ d, d ∈ ds → d.depth ≤ n) → PyData.depthAll ds ≤ n := by
  induction ds with
  | nil => intro _; unfold PyData.depthAll; omega
  | cons d ds ih =>
    intro h
    have h1 := h d List.mem_cons_self
    have h2 := ih fun x hx => h x (List.mem_cons_of_mem _ hx)
    rw [PyData.depthAll]
    omega
theorem sm_lay : ∀ {n : Nat} {d : D}, sm n d = true → d.canLay0 = true ∧ d.depth ≤ n
  | n, .none, _ => ⟨by unfold PyData.canLay0; rfl, by unfold PyData.depth; omega⟩
  | n, .bool _, _ => ⟨by unfold PyData.canLay0; rfl, by unfold PyData.depth; omega⟩
  | n, .int _, _ => ⟨by unfold PyData.canLay0; rfl, by unfold PyData.depth; omega⟩
  | n, .str z, h => ⟨smS_ok (by simpa using h), by unfold PyData.depth; omega⟩
  | 0, .list ds, h => by simp at h
  | 0, .tuple ds, h => by simp at h
  | n, .dict _, h => by simp at h
  | n + 1, .list ds, h => by
    simp only [sm_l, Bool.and_eq_true, List.all_eq_true] at h
    have q : ∀ d, d ∈ ds → d.canLay0 = true ∧ d.depth ≤ n := fun d hd => sm_lay (h.2 d hd)
    refine ⟨by rw [PyData.canLay0]; exact lay_all fun d hd => (q d hd).1, ?_⟩
    rw [PyData.depth]
    have := dep_all fun d hd => (q d hd).2
    omega
  | n + 1, .tuple ds, h => by
    simp only [sm_t, Bool.and_eq_true, List.all_eq_true] at h
    have q : ∀ d, d ∈ ds → d.canLay0 = true ∧ d.depth ≤ n := fun d hd => sm_lay (h.2 d hd)
    refine ⟨by rw [PyData.canLay0]; exact lay_all fun d hd => (q d hd).1, ?_⟩
    rw [PyData.depth]
    have := dep_all fun d hd => (q d hd).2
    omega
termination_by n => n
theorem lay_sm {n m : Nat} {a b : D} (ha : sm n a = true) (hb : sm m b = true) (h : n ≤ 64) : layD a b = true := by
  unfold layD
  rw [(sm_lay ha).1, (sm_lay hb).1]
  have := (sm_lay ha).2
  simp
  omega
theorem dEq_sm {n m : Nat} {a b : D} (ha : sm n a = true) (hb : sm m b = true) (h : n ≤ 64) : dEq a b = some (PyData.eqv a b) := by
  unfold dEq
  rw [lay_sm ha hb h]
  simp
theorem dNe_sm {n m : Nat} {a b : D} (ha : sm n a = true) (hb : sm m b = true) (h : n ≤ 64) : dNe a b = some (!PyData.eqv a b) := by
  unfold dNe
  rw [dEq_sm ha hb h]
  rfl
theorem dIn_guard {n j : Nat} {x : D} {cs : List D} (hx : sm n x = true) (hc : ∀ d, d ∈ cs → sm j d = true) (h : j ≤ 64) : (flatD x && cs.all flatD || x.canLay0 && PyData.canLayAll0 cs && decide (min (PyData.depthAll cs) x.depth ≤ 64)) = true := by
  rw [(sm_lay hx).1, lay_all fun d hd => (sm_lay (hc d hd)).1]
  have := dep_all fun d hd => (sm_lay (hc d hd)).2
  simp
  right
  omega
theorem dIn_smT {n j : Nat} {x : D} {cs : List D} (hx : sm n x = true) (hc : ∀ d, d ∈ cs → sm j d = true) (h : j ≤ 64) : dIn x (.tuple cs) = some (cs.any fun z => PyData.eqv z x) := by
  show (if _ then _ else _) = _
  rw [if_pos (dIn_guard hx hc h)]
theorem dIn_smL {n j : Nat} {x : D} {cs : List D} (hx : sm n x = true) (hc : ∀ d, d ∈ cs → sm j d = true) (h : j ≤ 64) : dIn x (.list cs) = some (cs.any fun z => PyData.eqv z x) := by
  show (if _ then _ else _) = _
  rw [if_pos (dIn_guard hx hc h)]
theorem sm_up {n m : Nat} {d : D} (h : sm n d = true) (k : n ≤ m) : sm m d = true := by
  induction n generalizing m d with
  | zero => cases d <;> simp at h ⊢; exact h
  | succ n ih =>
    obtain ⟨m, rfl⟩ : ∃ m', m = m' + 1 := ⟨m - 1, by omega⟩
    cases d with
    | list ds =>
      simp only [sm_l, Bool.and_eq_true, List.all_eq_true] at h ⊢
      exact ⟨h.1, fun d hd => ih (h.2 d hd) (by omega)⟩
    | tuple ds =>
      simp only [sm_t, Bool.and_eq_true, List.all_eq_true] at h ⊢
      exact ⟨h.1, fun d hd => ih (h.2 d hd) (by omega)⟩
    | dict ps => simp at h
    | str z => simpa using h
    | _ => simp
def sgn (c : Nat) : Str := ⟨#[c]⟩
theorem signs_eq {z : Str} : signsD z = z.cps.toList.map fun c => .str (sgn c) := rfl
@[simp] theorem signs_len {z : Str} : (signsD z).length = z.length := by
  rw [signs_eq, List.length_map]
  rfl
theorem str_len {z : Str} : z.length = z.cps.toList.length := rfl
theorem sortOk_str {ds : List D} (h : ∀ d, d ∈ ds → ∃ z, d = .str z ∧ smS z = true) (hl : ds.length ≤ 1000) : sortOk ds = true := by
  unfold sortOk
  simp only [Bool.and_eq_true, Bool.or_eq_true, List.all_eq_true, decide_eq_true_eq]
  refine ⟨⟨⟨?_, .inr ?_⟩, ?_⟩, by rw [sizeLine_eq]; omega⟩
  · intro d hd e he
    obtain ⟨a, rfl, _⟩ := h d hd
    obtain ⟨b, rfl, _⟩ := h e he
    rfl
  · intro d hd
    obtain ⟨a, rfl, _⟩ := h d hd
    rfl
  · intro d hd
    obtain ⟨a, rfl, q⟩ := h d hd
    exact ⟨by unfold PyData.depth; omega, smS_ok q⟩
theorem sortD_mem {ds : List D} {d : D} : d ∈ sortD ds ↔ d ∈ ds := List.mem_mergeSort
theorem sortD_len {ds : List D} : (sortD ds).length = ds.length := List.length_mergeSort _
@[simp] theorem dEq_i {a b : Int} : dEq (.int a) (.int b) = some (a == b) := by simp [dEq]
@[simp] theorem dNe_i {a b : Int} : dNe (.int a) (.int b) = some (!(a == b)) := by simp [dNe]
@[simp] theorem dEq_s {a b : Str} : dEq (.str a) (.str b) = some (a == b) := by simp [dEq]
@[simp] theorem dNe_s {a b : Str} : dNe (.str a) (.str b) = some (!(a == b)) := by simp [dNe]
theorem lay_str {z : Str} : PyData.canLay0 (.str z) = z.cps.toList.all (· < 0x110000) := by
  rw [PyData.canLay0]
  show z.cps.all _ = _
  rw [Array.all_toList]
theorem smS_sgn {z : Str} (h : smS z = true) {c : Nat} (hc : c ∈ z.cps.toList) : smS (sgn c) = true := by
  have h1 := smS_ok h
  rw [lay_str, List.all_eq_true] at h1
  have h2 := h1 c hc
  unfold smS
  rw [lay_str]
  have h3 : (sgn c).length = 1 := rfl
  rw [h3]
  simp [sgn] at h2 ⊢
  exact h2
theorem sm_filt {n : Nat} {ds : List D} {p : D → Bool} (hl : ds.length ≤ 1000) (h : ∀ d, d ∈ ds → sm n d = true) : sm (n + 1) (.list (ds.filter p)) = true := by
  simp only [sm_l, Bool.and_eq_true, List.all_eq_true, decide_eq_true_eq]
  refine ⟨Nat.le_trans (List.length_filter_le _ _) hl, fun d hd => h d (List.mem_filter.mp hd).1⟩
theorem sm_nil {n : Nat} : sm (n + 1) (.list []) = true := rfl
@[simp] theorem eqv_nil {ds : List D} : PyData.eqvAll ds [] = ds.isEmpty := by cases ds <;> simp
theorem lc_mp {e : En} {vs : List Nat} {gm : D → En → Option En} {mi : Mo (List D)} {mt : Mo Bool} {me : Mo Vx} {Q : Vx → En → Prop}
    (h : wM mi e fun ds e1 => ownOk e1 vs = true ∧ ds.length ≤ 16777215 ∧ ∃ g : D → D, (∀ d, d ∈ ds → ∃ e2, gm d (wipeE e1 vs) = some e2 ∧ wM mt e2 fun c e3 => c = true ∧ wM me e3 fun x e4 => wM (mVal x) e4 fun y e5 => y = g d ∧ wipeE e5 vs = wipeE e1 vs) ∧
      Q (.nw (.list (ds.map g))) (restE e1 (wipeE e1 vs) vs)) : wM (mLc vs gm mi mt me) e Q := by
  refine lc_fm (h.mono ?_)
  rintro ds e1 ⟨h1, h2, g, h3, h4⟩
  refine ⟨h1, h2, fun d => some (g d), ?_, ?_⟩
  · intro d hd
    obtain ⟨e2, q1, q2⟩ := h3 d hd
    refine ⟨e2, q1, q2.mono ?_⟩
    rintro c e3 ⟨rfl, q3⟩
    simp only [if_true]
    refine q3.mono fun x e4 q4 => q4.mono ?_
    rintro y e5 ⟨rfl, q5⟩
    exact ⟨rfl, q5⟩
  · rw [fm_map (g := g) fun a _ => rfl]
    exact h4
theorem fm_filter {p : D → Bool} {l : List D} : (l.filterMap fun d => if p d = true then some d else none) = l.filter p := by
  induction l with
  | nil => rfl
  | cons a l ih =>
    by_cases h : p a = true
    · rw [List.filterMap_cons, if_pos h, List.filter_cons_of_pos h, ih]
    · rw [List.filterMap_cons, if_neg h, List.filter_cons_of_neg h, ih]
theorem lc_flt {e : En} {vs : List Nat} {gm : D → En → Option En} {mi : Mo (List D)} {mt : Mo Bool} {me : Mo Vx} {Q : Vx → En → Prop}
    (h : wM mi e fun ds e1 => ownOk e1 vs = true ∧ ds.length ≤ 16777215 ∧ ∃ p : D → Bool, (∀ d, d ∈ ds → ∃ e2, gm d (wipeE e1 vs) = some e2 ∧ wM mt e2 fun c e3 => c = p d ∧ if p d = true then wM me e3 fun x e4 => wM (mVal x) e4 fun y e5 => y = d ∧ wipeE e5 vs = wipeE e1 vs else wipeE e3 vs = wipeE e1 vs) ∧
      Q (.nw (.list (ds.filter p))) (restE e1 (wipeE e1 vs) vs)) : wM (mLc vs gm mi mt me) e Q := by
  refine lc_fm (h.mono ?_)
  rintro ds e1 ⟨h1, h2, p, h3, h4⟩
  refine ⟨h1, h2, fun d => if p d = true then some d else none, ?_, ?_⟩
  · intro d hd
    obtain ⟨e2, q1, q2⟩ := h3 d hd
    refine ⟨e2, q1, q2.mono ?_⟩
    rintro c e3 ⟨rfl, q3⟩
    by_cases hp : p d = true
    · simp only [hp, if_true] at q3 ⊢
      refine q3.mono fun x e4 q4 => q4.mono ?_
      rintro y e5 ⟨rfl, q5⟩
      exact ⟨rfl, q5⟩
    · simp only [hp] at q3 ⊢
      exact ⟨rfl, q3⟩
  · rw [fm_filter]
    exact h4
theorem zip_mem {as bs : List D} {p : D} : p ∈ zipD as bs → ∃ a b, a ∈ as ∧ b ∈ bs ∧ p = .tuple [a, b] := by
  induction as generalizing bs with
  | nil => intro h; cases h
  | cons a as ih =>
    cases bs with
    | nil => intro h; cases h
    | cons b bs =>
      intro h
      rcases List.mem_cons.mp h with rfl | h
      · exact ⟨a, b, List.mem_cons_self, List.mem_cons_self, rfl⟩
      · obtain ⟨x, y, hx, hy, q⟩ := ih h
        exact ⟨x, y, List.mem_cons_of_mem _ hx, List.mem_cons_of_mem _ hy, q⟩
theorem zip_len {as bs : List D} : (zipD as bs).length ≤ as.length := by
  induction as generalizing bs with
  | nil => exact Nat.le_refl _
  | cons a as ih =>
    cases bs with
    | nil => exact Nat.zero_le _
    | cons b bs => exact Nat.succ_le_succ ih
@[simp] theorem cut_1 {ds : List D} : cutD ds (some 1) none = ds.drop 1 := by
  unfold cutD
  simp [HT.sIx]
  cases ds with
  | nil => rfl
  | cons d ds =>
    have h : min 1 (d :: ds).length = 1 := by simp
    rw [h]
    simp
def ltD : D → D → Bool
  | .str a, .str b => strLt a b
  | _, _ => false
def up : List D → Bool
  | a :: b :: r => ltD a b && up (b :: r)
  | _ => true
def ltP : D → Bool
  | .tuple [a, b] => ltD a b
  | _ => false
theorem up_zip : ∀ {ds : List D}, (zipD ds (ds.drop 1)).all ltP = up ds
  | [] => rfl
  | [_] => rfl
  | a :: b :: r => by
    have := up_zip (ds := b :: r)
    show (ltD a b && (zipD (b :: r) r).all ltP) = (ltD a b && up (b :: r))
    rw [← this]
    rfl
@[simp] theorem boolsD_m {p : D → Bool} {l : List D} : boolsD (l.map fun d => PyData.bool (p d)) = some (l.map p) := boolsD_map
end Fw
set_option Elab.async false
set_option linter.all false
set_option maxRecDepth 100000
set_option maxHeartbeats 2000000
/-! Fw25: what sorting and sets answer, on texts and on integers. -/
namespace Fw
open PySem PySem.Spec PyProof.Rows L2
open PySem.W (dataLe dataLe_str dataLe_int)
def strLe (a b : Str) : Bool := decide (a.cps.toList ≤ b.cps.toList)
theorem sortD_strs {zs : List Str} : sortD (zs.map PyData.str) = (zs.mergeSort strLe).map .str := by
  unfold sortD
  refine (List.map_mergeSort (r := strLe) (s := dataLe false id) (f := PyData.str) (l := zs) ?_).symm
  intro a _ b _
  exact (congrFun (congrFun (dataLe_str (fun z : Str => z)) a) b).symm
theorem sortD_ints {zs : List Int} : sortD (zs.map PyData.int) = (zs.mergeSort fun a b => decide (a ≤ b)).map .int := by
  unfold sortD
  refine (List.map_mergeSort (r := fun a b => decide (a ≤ b)) (s := dataLe false id) (f := PyData.int) (l := zs) ?_).symm
  intro a _ b _
  exact (congrFun (congrFun (dataLe_int (fun z : Int => z)) a) b).symm
theorem strLe_trans (a b c : Str) (h1 : strLe a b = true) (h2 : strLe b c = true) : strLe a c = true := by
  unfold strLe at *
  exact decide_eq_true (List.le_trans (of_decide_eq_true h1) (of_decide_eq_true h2))
theorem strLe_total (a b : Str) : (strLe a b || strLe b a) = true := by
  unfold strLe
  rcases List.le_total a.cps.toList b.cps.toList with h | h <;> simp [h]
theorem str_ext {a b : Str} (h : a.cps.toList = b.cps.toList) : a = b := by
  cases a with | mk x => cases b with | mk y =>
  cases x; cases y
  simp at h
  rw [h]
theorem strLe_anti {a b : Str} (h1 : strLe a b = true) (h2 : strLe b a = true) : a = b :=
  str_ext (List.le_antisymm (of_decide_eq_true h1) (of_decide_eq_true h2))
theorem strLt_le {a b : Str} : strLt a b = true ↔ strLe a b = true ∧ a ≠ b := by
  unfold strLt strLe
  rw [decide_eq_true_eq, decide_eq_true_eq]
  constructor
  · intro h
    refine ⟨List.le_of_lt h, ?_⟩
    rintro rfl
    exact List.lt_irrefl _ h
  · rintro ⟨h, n⟩
    rcases List.le_iff_lt_or_eq.mp h with h | h
    · exact h
    · exact absurd (str_ext h) n
theorem ints_uniq {as bs : List Int} (h1 : as.Pairwise (· ≤ ·)) (h2 : bs.Pairwise (· ≤ ·)) (p : as.Perm bs) : as = bs :=
  p.eq_of_pairwise (fun a b _ _ x y => by omega) h1 h2
theorem sortI_pw {zs : List Int} : (zs.mergeSort fun a b => decide (a ≤ b)).Pairwise (· ≤ ·) := by
  have := List.pairwise_mergeSort (le := fun a b : Int => decide (a ≤ b)) (fun a b c h1 h2 => by simp at *; omega) (fun a b => by simp; omega) zs
  exact this.imp fun h => of_decide_eq_true h
def addS (acc : List Str) (z : Str) : List Str := if z ∈ acc then acc else acc ++ [z]
def dedupS (zs : List Str) : List Str := zs.foldl addS []
theorem any_str {zs : List Str} {z : Str} : ((zs.map PyData.str).any fun x => PyData.eqv x (.str z)) = decide (z ∈ zs) := by
  induction zs with
  | nil => simp
  | cons a zs ih =>
    rw [List.map_cons, List.any_cons, ih, eqv_s]
    by_cases h : a = z
    · simp [h]
    · have h2 : ¬ z = a := fun q => h q.symm
      simp [h, h2]
theorem dedup_fold {zs acc : List Str} : (zs.map PyData.str).foldl addD (acc.map .str) = (zs.foldl addS acc).map .str := by
  induction zs generalizing acc with
  | nil => rfl
  | cons z zs ih =>
    rw [List.map_cons, List.foldl_cons, List.foldl_cons, ← ih]
    congr 1
    unfold addD addS
    rw [any_str]
    by_cases h : z ∈ acc
    · simp [h]
    · simp [h]
theorem dedupD_strs {zs : List Str} : dedupD (zs.map PyData.str) = (dedupS zs).map .str := dedup_fold (acc := [])
theorem addS_nd {zs acc : List Str} (h : acc.Nodup) : (zs.foldl addS acc).Nodup := by
  induction zs generalizing acc with
  | nil => exact h
  | cons z zs ih =>
    rw [List.foldl_cons]
    refine ih ?_
    unfold addS
    split
    · exact h
    · rename_i q
      rw [List.nodup_append]
      refine ⟨h, by simp, ?_⟩
      rintro a ha b hb rfl
      simp at hb
      subst hb
      exact q ha
theorem dedupS_nd {zs : List Str} : (dedupS zs).Nodup := addS_nd List.nodup_nil
theorem addS_id {zs acc : List Str} (h : (acc ++ zs).Nodup) : zs.foldl addS acc = acc ++ zs := by
  induction zs generalizing acc with
  | nil => simp
  | cons z zs ih =>
    rw [List.foldl_cons]
    have q : z ∉ acc := by
      intro q
      rw [List.nodup_append] at h
      exact h.2.2 z q z List.mem_cons_self rfl
    have e : addS acc z = acc ++ [z] := by
      unfold addS
      rw [if_neg q]
    rw [e, ih (by simpa using h)]
    simp
theorem dedupS_id {zs : List Str} (h : zs.Nodup) : dedupS zs = zs := addS_id (acc := []) h
theorem addS_len {zs acc : List Str} : (zs.foldl addS acc).length ≤ acc.length + zs.length := by
  induction zs generalizing acc with
  | nil => simp
  | cons z zs ih =>
    rw [List.foldl_cons]
    refine Nat.le_trans ih ?_
    unfold addS
    split <;> simp <;> omega
theorem dedupS_len {zs : List Str} : (dedupS zs).length ≤ zs.length := by
  have := addS_len (zs := zs) (acc := [])
  show (zs.foldl addS []).length ≤ _
  simpa using this
theorem addS_mem {zs acc : List Str} {x : Str} (h : x ∈ zs.foldl addS acc) : x ∈ acc ∨ x ∈ zs := by
  induction zs generalizing acc with
  | nil => exact .inl h
  | cons z zs ih =>
    rw [List.foldl_cons] at h
    rcases ih h with q | q
    · unfold addS at q
      split at q
      · exact .inl q
      · rcases List.mem_append.mp q with q | q
        · exact .inl q
        · simp at q
          subst q
          exact .inr List.mem_cons_self
    · exact .inr (List.mem_cons_of_mem _ q)
theorem eqvAll_strs {as bs : List Str} : PyData.eqvAll (as.map .str) (bs.map .str) = decide (as = bs) := by
  induction as generalizing bs with
  | nil => cases bs <;> simp
  | cons a as ih =>
    cases bs with
    | nil => simp
    | cons b bs =>
      rw [List.map_cons, List.map_cons, eqvAll_c, ih, eqv_s]
      by_cases h : a = b <;> simp [h]
theorem strLt_trans {a b c : Str} (h1 : strLt a b = true) (h2 : strLt b c = true) : strLt a c = true := by
  unfold strLt at *
  exact decide_eq_true (List.lt_trans (of_decide_eq_true h1) (of_decide_eq_true h2))
theorem up_pw {zs : List Str} : up (zs.map PyData.str) = true ↔ zs.Pairwise fun a b => strLt a b = true := by
  induction zs with
  | nil => exact ⟨fun _ => .nil, fun _ => rfl⟩
  | cons a zs ih =>
    cases zs with
    | nil => exact ⟨fun _ => by simp, fun _ => rfl⟩
    | cons b zs =>
      show (strLt a b && up ((b :: zs).map PyData.str)) = true ↔ _
      rw [Bool.and_eq_true, ih, List.pairwise_cons (a := a)]
      constructor
      · rintro ⟨h1, h2⟩
        refine ⟨fun c hc => ?_, h2⟩
        rcases List.mem_cons.mp hc with rfl | hc
        · exact h1
        · exact strLt_trans h1 ((List.pairwise_cons.mp h2).1 c hc)
      · rintro ⟨h1, h2⟩
        exact ⟨h1 b List.mem_cons_self, h2⟩
theorem set_law {zs : List Str} : PyData.eqvAll (zs.map .str) (sortD (dedupD (zs.map .str))) = up (zs.map .str) := by
  rw [dedupD_strs, sortD_strs, eqvAll_strs, Bool.eq_iff_iff, up_pw, decide_eq_true_eq]
  constructor
  · intro h
    have hp : zs.Pairwise fun a b => strLe a b = true := by
      rw [h]
      exact List.pairwise_mergeSort strLe_trans strLe_total _
    have hn : zs.Nodup := by
      rw [h]
      exact (List.mergeSort_perm _ _).nodup_iff.mpr dedupS_nd
    exact (hp.and hn).imp fun h => strLt_le.mpr h
  · intro h
    have hp : zs.Pairwise fun a b => strLe a b = true := h.imp fun q => (strLt_le.mp q).1
    have hn : zs.Nodup := h.imp fun q => (strLt_le.mp q).2
    rw [dedupS_id hn, List.mergeSort_of_pairwise hp]
end Fw
set_option Elab.async false
set_option linter.all false
set_option maxRecDepth 100000
set_option maxHeartbeats 4000000
/-! Fw26: sets of integers and texts, made from a tuple or a list, and sorted. -/
namespace Fw
open PySem PySem.Spec PyProof.Rows L2
open PySem.W (AllAlike Sortable dataLe alike)
/-- the key that an entry bears -/
def keyE (e : Int × Value) : Key := match e.2 with
  | .int i _ => .inl i
  | .str x _ => .inr x
  | _ => .inl 0
def EntOk (w : World) (e : Int × Value) : Prop := ∃ k, keyIs k e.2 = true ∧ e.1 = keyH w k
theorem keyE_of {k : Key} {e : Int × Value} (h : keyIs k e.2 = true) : keyE e = k := by
  obtain ⟨n, v⟩ := e
  rcases keyIs_shape h with ⟨i, t, rfl, q⟩ | ⟨x, t, rfl, q⟩
  · cases q; rfl
  · cases q; rfl
theorem key_scn {k : Key} {v : Value} (h : keyIs k v = true) : v.scannable = true := by
  rcases keyIs_shape h with ⟨i, t, rfl, rfl⟩ | ⟨x, t, rfl, rfl⟩ <;> rfl
theorem ent_is {w : World} {e : Int × Value} (h : EntOk w e) (k : Key) : keyIs k e.2 = true ↔ keyE e = k := by
  obtain ⟨k0, h0, _⟩ := h
  rw [keyE_of h0]
  constructor
  · intro q
    rw [← keyE_of h0, keyE_of q]
  · rintro rfl
    exact h0
/-- the set at a bears the keys ks -/
def SetV (w : World) (h : Heap) (a : Addr) (ks : List Key) : Prop := ∃ o es ep t, h.get? a = some o ∧ o.ExactSet ∧ o.data = .set es ep t ∧
  (∀ e, e ∈ es.toList → EntOk w e) ∧ (es.toList.map keyE).Perm ks ∧ ks.Nodup ∧ es.size < scanBound ∧ t.fits es.size = true ∧ Ris t.place.toList ∧
  (w.params.followText "set-order" = true ∨ t.led = true)
theorem SetV.at {w : World} {h h2 : Heap} {a : Addr} {ks : List Key} (R : SetV w h a ks) (k : ∀ o, h.get? a = some o → h2.get? a = some o) : SetV w h2 a ks :=
  let ⟨o, es, ep, t, ho, r⟩ := R
  ⟨o, es, ep, t, k o ho, r⟩
def hasK (k : Key) (acc : List Key) : Bool := acc.any fun x => decide (x = k)
theorem hasK_iff {k : Key} {acc : List Key} : hasK k acc = true ↔ k ∈ acc := by
  unfold hasK
  rw [List.any_eq_true]
  constructor
  · rintro ⟨x, hx, q⟩
    rw [← of_decide_eq_true q]
    exact hx
  · exact fun h => ⟨k, h, decide_eq_true rfl⟩
def addK (acc : List Key) (k : Key) : List Key := if hasK k acc = true then acc else acc ++ [k]
def dedupK (ks : List Key) : List Key := ks.foldl addK []
theorem addK_len {acc : List Key} {k : Key} : (addK acc k).length ≤ acc.length + 1 := by
  unfold addK
  split
  · omega
  · simp
theorem foldK_len {ks acc : List Key} : (ks.foldl addK acc).length ≤ acc.length + ks.length := by
  induction ks generalizing acc with
  | nil => simp
  | cons k ks ih =>
    have h1 := ih (acc := addK acc k)
    have h2 := addK_len (acc := acc) (k := k)
    rw [List.foldl_cons, List.length_cons]
    omega
section
variable {P : Program} {w : World} {A : Around} {E : Value → Shared → Prop} {s : Shared} {a : Addr}
theorem setV_tail {g : Bool → Sem Unit} (hg : ∀ (b : Bool) (s1 : Shared) (R : Unit → Shared → Prop), R () s1 → wpAny (model P w) A (g b) R E s1) {o : Obj} {es : Array (Int × Value)} {ep : Nat} {t : SetTable}
    (ho : s.heap.get? a = some o) (hex : o.ExactSet) (hd : o.data = .set es ep t) {ns : Array (Int × Value)} {t2 : SetTable} {ks : List Key} (g1 : ∀ e, e ∈ ns.toList → EntOk w e) (pk : (ns.toList.map keyE).Perm ks) (nd : ks.Nodup)
    (hb : ns.size < scanBound) (hf : t2.fits ns.size = true) (hr : Ris t2.place.toList) (hl : w.params.followText "set-order" = true ∨ t2.led = true) {wd : Bool} {R : Option Bool → Shared → Prop}
    (hR : ∀ h2, Heap.SameBut a s.heap h2 → SetV w h2 a ks → R (some true) { s with heap := h2 }) :
    wpAny (model P w) A (storeSet a ns t2 >>= fun _ => if (!wd && t2.tooFull) = true then
        g (relayAll t2 ns (SetTable.grown ns.size)).2.2 >>= fun _ => storeSet a (relayAll t2 ns (SetTable.grown ns.size)).1 (relayAll t2 ns (SetTable.grown ns.size)).2.1 >>= fun _ => pure (some true)
      else pure (some true)) R E s := by
  have c1 := store_at (es' := ns) (t' := t2) ho hd
  have b1 := Heap.SameBut.update s.heap a (Obj.putSet ns t2)
  refine wpAny_bind (wpAny_storeSet_of ho hd ?_ (fits_of_scanBound hb))
  split
  · have z1 := relayAll_perm t2 ns (SetTable.grown ns.size)
    have z2 := relayAll_fits t2 ns (SetTable.grown ns.size)
    have z3 := relayAll_ris t2 ns (SetTable.grown ns.size)
    have z4 := relayAll_led t2 ns (SetTable.grown ns.size)
    generalize relayAll t2 ns (SetTable.grown ns.size) = Z at z1 z2 z3 z4 ⊢
    obtain ⟨ms, t3, gv⟩ := Z
    dsimp only at z1 z2 z3 z4 ⊢
    have hz : ms.size = ns.size := by
      have := z1.length_eq
      simpa using this
    have hb2 : ms.size < scanBound := hz ▸ hb
    refine wpAny_bind (hg _ _ _ (wpAny_bind (wpAny_storeSet_of c1 rfl ?_ (fits_of_scanBound hb2))))
    have c2 := store_at (es' := ms) (t' := t3) c1 rfl
    exact wpAny_pure (hR _ (b1.trans (Heap.SameBut.update _ a _)) ⟨_, ms, _, t3, c2, hex, rfl, fun e he => g1 e (z1.mem_iff.mp he), (z1.map keyE).trans pk, nd, hb2, z2, z3, hl.imp_right fun q => z4.trans q⟩)
  · exact wpAny_pure (hR _ b1 ⟨_, ns, _, t2, c1, hex, rfl, g1, pk, nd, hb, hf, hr, hl⟩)
theorem setV_add {k : Key} {x : Value} {ks : List Key} {Q : Bool → Shared → Prop} (R : SetV w s.heap a ks) (hx : keyIs k x = true) (room : ks.length + 1 < scanBound)
    (hQ : ∀ b h2, Heap.SameBut a s.heap h2 → SetV w h2 a (addK ks k) → Q b { s with heap := h2 }) : wpAny (model P w) A (setAddHashed a x (keyH w k)) Q E s := by
  obtain ⟨o, es, ep, t, ho, hex, hd, g, pk, nd, hb, hf, hr, hl⟩ := id R
  have hsc := key_scn hx
  have hel : ElemsOf (mixKind P w) es.toList := fun e he => by
    obtain ⟨k0, q1, q2⟩ := g e he
    exact ⟨⟨k0, q1, q2⟩, key_scn q1⟩
  have hkey : (mixKind P w).is k x = true := hx
  have hsz : es.size = ks.length := by
    have := pk.length_eq
    simpa using this
  show wpAny (model P w) A (setAddHashed a x ((mixKind P w).hash k)) Q E s
  unfold setAddHashed setAddHashedIn
  refine wpAny_holding (wpAny_bind (wpAny_setState_of ho hd hf ?_))
  dsimp only
  rw [byScan_of hsc hb hel]
  simp only [↓reduceIte]
  unfold setAddByScan
  refine wpAny_bind (wpAny_bind (wpAny_rule (wpAny_bind (wpAny_setScan_of hkey ho hd hf hel ?_))))
  cases hfi : List.findIdx? (fun e => (mixKind P w).is k e.2) es.toList with
  | some j =>
    dsimp only
    obtain ⟨hj, pj, _⟩ := List.findIdx?_eq_some_iff_getElem.mp hfi
    have hm : k ∈ ks := pk.mem_iff.mp (List.mem_map.mpr ⟨_, List.getElem_mem hj, keyE_of pj⟩)
    have e1 : addK ks k = ks := if_pos (hasK_iff.mpr hm)
    exact wpAny_pure (wpAny_pure (hQ _ s.heap (Heap.SameBut.refl a s.heap) (by rw [e1]; exact R)))
  | none =>
    dsimp only
    have hnk : k ∉ ks := fun z => by
      obtain ⟨e, he, q⟩ := List.mem_map.mp (pk.mem_iff.mpr z)
      have c := List.findIdx?_eq_none_iff.mp hfi e he
      rw [show (mixKind P w).is k e.2 = true from (ent_is (g e he) k).mpr q] at c
      cases c
    have e1 : addK ks k = ks ++ [k] := if_neg fun q => hnk (hasK_iff.mp q)
    rw [e1] at hQ
    have hgw : ∀ (b : Bool) {s1 : Shared} {R' : Unit → Shared → Prop}, R' () s1 → wpAny (model P w) A (match b with | true => rule "set.scan.the-table-gave-way" | false => pure ()) R' E s1 := by
      intro b s1 R' q
      cases b with
      | true => exact wpAny_rule q
      | false => exact wpAny_pure q
    have y1 := layNew_perm t es ((mixKind P w).hash k) x
    have y2 := layNew_fits t es ((mixKind P w).hash k) x
    have y3 := layNew_ris t es ((mixKind P w).hash k) x hr
    have y4 := layNew_led t es ((mixKind P w).hash k) x
    generalize layNew t es ((mixKind P w).hash k) x = Z at y1 y2 y3 y4 ⊢
    obtain ⟨ns, t1, wd, gv⟩ := Z
    dsimp only at y1 y2 y3 y4 ⊢
    rw [Array.toList_push] at y1
    have g1 : ∀ e, e ∈ ns.toList → EntOk w e := fun e he => by
      rcases List.mem_append.mp (y1.mem_iff.mp he) with z | z
      · exact g e z
      · rw [List.mem_singleton.mp z]
        exact ⟨k, hx, rfl⟩
    have pk1 : (ns.toList.map keyE).Perm (ks ++ [k]) := by
      refine (y1.map keyE).trans ?_
      rw [List.map_append]
      refine pk.append ?_
      rw [List.map_singleton, keyE_of (e := ((mixKind P w).hash k, x)) hx]
    have nd1 : (ks ++ [k]).Nodup := by
      rw [List.nodup_append]
      refine ⟨nd, by simp, fun y hy z hz => ?_⟩
      rw [List.mem_singleton.mp hz]
      rintro rfl
      exact hnk hy
    have hb1 : ns.size < scanBound := by
      have := pk1.length_eq
      simp at this
      omega
    have hl1 : w.params.followText "set-order" = true ∨ t1.led = true := hl.imp_right fun q => y4.trans q
    refine wpAny_bind (hgw _ ?_)
    split
    · refine wpAny_bind ?_
      rw [hashByValue_scannable 8 hsc]
      refine wpAny_pure ?_
      refine setV_tail (fun b s1 R' q => ?_) ho hex hd g1 pk1 nd1 hb1 ?_ ?_ ?_ ?_
      · cases b <;> first | exact wpAny_pure q | exact wpAny_rule q
      · first | (split <;> first | exact y2 | exact SetTable.fits_plain_off y2) | exact y2
      · first | (split <;> exact y3) | exact y3
      · first | (split <;> exact hl1) | exact hl1
      · intro h2 sb r
        dsimp only
        exact wpAny_pure (hQ _ h2 sb r)
    · refine wpAny_bind (wpAny_pure ?_)
      simp only [↓reduceIte]
      refine setV_tail (fun b s1 R' q => ?_) ho hex hd g1 pk1 nd1 hb1 y2 y3 hl1 ?_
      · cases b <;> first | exact wpAny_pure q | exact wpAny_rule q
      · intro h2 sb r
        dsimp only
        exact wpAny_pure (hQ _ h2 sb r)
/-- the set's fill from an iterator -/
theorem setV_fill {I : Addr} {fp wr : List Addr} {G : Array GenState → Array GenState → Prop} {n : Nat} {Pv : Nat → Value → Prop} {St : Nat → Shared → Prop} {R : Result → Shared → Prop} (W : WalksS P w A.in1 I fp wr G n Pv St) (S : Addr) (hS : S ∉ fp)
    (ks : List Key) (hn : n = ks.length) (hb : ks.length + 1 < scanBound) (hv : ∀ (i : Nat) (v : Value), Pv i v → ∃ k : Key, ks[i]? = some k ∧ keyIs k v = true) : ∀ (m i : Nat) (s : Shared), n - i = m → i ≤ n → St i s → SetV w s.heap S (dedupK (ks.take i)) →
      (∀ s2, Moved (S :: wr) G s s2 → SetV w s2.heap S (dedupK ks) → R (.ok (.ret .none)) s2) → codeAny (model P w) A (.builtin "set.update.loop" ⟨[.ref S, .ref I], []⟩) R s := by
  have hw : S ∉ wr := fun h => hS (W.sub _ h)
  have hsub : ∀ b, b ∈ wr → b ∈ S :: wr := fun b hb => List.mem_cons_of_mem _ hb
  intro m
  induction m with
  | zero =>
    intro i s hm hi hst hV hR
    have e : ks.take i = ks := List.take_of_length_le (by omega)
    have hin : i = n := by omega
    subst hin
    rw [e] at hV
    refine codeAny_builtin F.entry_set_update_loop ?_
    rw [Around.under_plainId F.plain_set_update_loop _]
    show wpAny _ A.in1 (pyNext (.ref I) >>= _) _ _ s
    refine wpAny_bind (W.done s _ _ hst fun s2 hmv => ?_)
    show wpAny _ A.in1 (ret Value.none) _ _ s2
    exact wpAny_pure (hR s2 (hmv.mono hsub) (hV.at fun o e => hmv.heap S o hw e))
  | succ m ih =>
    intro i s hm hi hst hV hR
    have hlt : i < n := by omega
    refine codeAny_builtin F.entry_set_update_loop ?_
    rw [Around.under_plainId F.plain_set_update_loop _]
    show wpAny _ A.in1 (pyNext (.ref I) >>= _) _ _ s
    refine wpAny_bind (W.item i s _ _ hlt hst fun v s2 hP hst2 hmv => ?_)
    obtain ⟨k, hk, hkv⟩ := hv i v hP
    have hV2 : SetV w s2.heap S (dedupK (ks.take i)) := hV.at fun o e => hmv.heap S o hw e
    have hlen : (dedupK (ks.take i)).length ≤ i := by
      have := foldK_len (ks := ks.take i) (acc := [])
      rw [List.length_nil, List.length_take] at this
      unfold dedupK
      omega
    have hnx : addK (dedupK (ks.take i)) k = dedupK (ks.take (i + 1)) := by
      rw [List.take_add_one, hk]
      unfold dedupK
      rw [Option.toList_some, List.foldl_append]
      rfl
    show wpAny _ A.in1 (holding [v] (setAdd S v) >>= _) _ _ s2
    refine wpAny_bind (wpAny_holding ?_)
    unfold setAdd
    refine wpAny_holding (wpAny_bind ((mixKind P w).pyHash (k := k) hkv ?_))
    refine setV_add (s := { s2 with toks := s2.toks + 1 }) hV2 hkv (by omega) fun b h2 sb hV3 => ?_
    rw [hnx] at hV3
    refine wpAny_pure ⟨plainId_quiet F.plain_set_update_loop _, ih (i + 1) _ (by omega) hlt (W.frame _ s2 _ _ hst2 (Nat.le_succ _) fun c hc o e => ?_) hV3 fun s3 hm3 hV4 => ?_⟩
    · rw [sb.2 c (fun h : c = S => hS (h ▸ hc))]
      exact e
    · refine hR s3 (Moved.trans W.gtrans ((hmv.mono hsub).then_heap (Nat.le_succ _) fun c o hc e => ?_) hm3) hV4
      rw [sb.2 c (fun h : c = S => hc (h ▸ List.mem_cons_self))]
      exact e
def setObj0 (w : World) : Obj := { cls := .type "set", dict := none, data := .set #[] 0 (.fresh 0 0 (!w.params.followText "set-order")) }
theorem setV_new {h : Heap} (ho : h.get? a = some (setObj0 w)) : SetV w h a [] := by
  refine ⟨_, #[], 0, _, ho, ⟨rfl, rfl, rfl⟩, rfl, fun e he => by simp at he, List.Perm.refl _, List.nodup_nil, by decide, rfl, List.Pairwise.nil, ?_⟩
  show _ ∨ (!w.params.followText "set-order") = true
  cases w.params.followText "set-order" <;> simp
set_option maxHeartbeats 6400000 in
theorem call_setT {l : Addr} {items : Array Value} (ks : List Key) {Q : Value → Shared → Prop} (hh : A.handled = none) (hl : s.heap.IsTuple l items) (hsz : items.size = ks.length) (hit : ∀ (i : Nat) (v : Value), items[i]? = some v → ∃ k : Key, ks[i]? = some k ∧ keyIs k v = true)
    (hb : ks.length + 1 < scanBound) (h : ∀ (h2 : Heap) (tk : Nat), SetV w h2 s.heap.objs.size (dedupK ks) → (∀ b o, s.heap.get? b = some o → h2.get? b = some o) → Q (.ref s.heap.objs.size) { s with heap := h2, toks := tk }) :
    wpAny (model P w) A (call (.type "set") [.ref l]) Q E s := by
  obtain ⟨c, tl, hmro⟩ := PySem.F.called_set.mro
  have hmade := PySem.F.called_set.made
  have hsub := PySem.F.called_set.sub
  refine wpAny_call (codeAny_of_tree ?_)
  show wpAny _ _ (callAny (.type "set") _) _ _ _
  refine wpAny_pure ⟨Code.quiet_builtin _ (by decide +kernel), codeAny_builtin F.entry_type_call ?_⟩
  rw [Around.under_plain (weight_type_call_type "set" [.ref l] []) rfl]
  have h1 := PySem.F.called_set.notType
  have h2 := PySem.F.called_set.canCreate
  have hct := PySem.F.typeCall_set_1 (.ref l)
  repeat (any_goals (first | assumption | wp_step))
  have hnew : setObj0 w = { cls := .type "set", dict := none, data := .set #[] 0 (.fresh 0 0 (!w.params.followText "set-order")) } := rfl
  refine codeAny_mono (code_set_led1 (.ref l) (E := E) (Q₁ := fun obj s1 => obj = .ref s.heap.objs.size ∧ s1 = { s with heap := s.heap.push (setObj0 w) }) ⟨rfl, rfl⟩) fun r s1 hr => ?_
  cases r with
  | error e => exact hr
  | ok fl =>
    cases fl with
    | ret obj =>
      obtain ⟨rfl, rfl⟩ := hr
      have hS : (s.heap.push (setObj0 w)).get? s.heap.objs.size = some (setObj0 w) := Heap.get?_push_size _ rfl
      have hT : Shared.TypeIs { s with heap := s.heap.push (setObj0 w) } (.ref s.heap.objs.size) "set" := ⟨_, hS, rfl⟩
      have hli := PySem.F.called_set.init.lookup
      have hbi := PySem.F.called_set.init.bind (.ref s.heap.objs.size)
      repeat (any_goals (first | assumption | wp_step))
      refine codeAny_mono (codeAny_call_builtin (R := wants (fun r s2 => r = .none ∧ ∃ h2 tk, s2 = { s with heap := h2, toks := tk } ∧ SetV w h2 s.heap.objs.size (dedupK ks) ∧ (∀ b o, s.heap.get? b = some o → h2.get? b = some o)) E)
        PySem.F.called_set.init.plain PySem.F.entry_set_init (check_set_init_1 hT ?_)) fun r2 s2 hr2 => ?_
      · obtain ⟨ol, hol, hcl, nl, hdl⟩ := hl
        obtain ⟨ocls, odict, odata, oslots⟩ := ol
        simp only at hcl hdl
        subst hcl
        subst hdl
        have hol2 : (s.heap.push (setObj0 w)).get? l = some { cls := .type "tuple", dict := odict, data := .seq items nl, slots := oslots } := Heap.get?_push_of_some _ hol
        have hsls := PySem.F.sub_tuple_set
        have hslf := PySem.F.sub_tuple_frozenset
        have hne : (Value.type "tuple" == Value.type "dict") = false := by decide
        have hl1 : (s.heap.push (setObj0 w)).IsTuple l items := ⟨_, hol2, rfl, nl, rfl⟩
        unfold Builtin.«set.__init__» noKeywords Builtin.Frozenset.updateFrom
        generalize hPI : pyIter = PI
        wp_walk
        subst hPI
        refine wpAny_pyIter_tuple hl1 (wpAny_bind (wpAny_runValue ?_))
        have hlS : l < s.heap.objs.size := Heap.lt_size hol
        have hh3 : A.in1.in1.in1.handled = none := by simp [hh]
        have hz1 : (s.heap.push (setObj0 w)).objs.size = s.heap.objs.size + 1 := Heap.size_push ..
        have hneI : l ≠ (s.heap.push (setObj0 w)).objs.size := by rw [hz1]; exact Nat.ne_of_lt (Nat.lt_succ_of_lt hlS)
        have hSf : s.heap.objs.size ∉ [(s.heap.push (setObj0 w)).objs.size, l] := by
          simp only [List.mem_cons, List.not_mem_nil, or_false, not_or]
          exact ⟨by rw [hz1]; exact Nat.ne_of_lt (Nat.lt_succ_self _), Nat.ne_of_gt hlS⟩
        refine setV_fill ((Walks.tuple hh3 _ l hneI items).toS) s.heap.objs.size hSf ks hsz hb hit (items.size - 0) 0 _ rfl (Nat.zero_le _) ⟨⟨_, Heap.get?_push_size _ rfl, rfl, rfl⟩, hl1.push _⟩ ?_ ?_
        · exact setV_new (Heap.get?_push_of_some _ hS)
        · intro s3 hm hV
          obtain ⟨h3, g3, d3, tk3, os3⟩ := s3
          have eg : g3 = s.gens := hm.gens
          have ed : d3 = s.drawn := hm.drawn
          have eo : os3 = s.os := hm.os
          subst eg ed eo
          show wpAny _ _ _ _ _ _
          refine wpAny_pure ?_
          show wpAny _ _ (ret Value.none) _ _ _
          refine wpAny_pure ⟨rfl, h3, tk3, rfl, hV, fun b o e => ?_⟩
          have hb0 : b < s.heap.objs.size := Heap.lt_size e
          refine hm.heap b o ?_ (Heap.get?_push_of_some _ (Heap.get?_push_of_some _ e))
          simp only [List.mem_cons, List.not_mem_nil, or_false, not_or]
          exact ⟨Nat.ne_of_lt hb0, by rw [hz1]; exact Nat.ne_of_lt (Nat.lt_succ_of_lt hb0)⟩
      · cases r2 with
        | error e => exact hr2
        | ok f2 =>
          cases f2 with
          | ret r =>
            obtain ⟨rfl, h2, tk, rfl, hV, hk⟩ := hr2
            repeat (any_goals (first | assumption | wp_step))
            exact h _ _ hV hk
          | _ => exact hr2.elim
    | _ => exact hr.elim
set_option maxHeartbeats 6400000 in
theorem call_setL {l : Addr} {items : Array Value} (ks : List Key) {Q : Value → Shared → Prop} (hh : A.handled = none) (hl : s.heap.IsList l items) (hsz : items.size = ks.length) (hit : ∀ (i : Nat) (v : Value), items[i]? = some v → ∃ k : Key, ks[i]? = some k ∧ keyIs k v = true)
    (hb : ks.length + 1 < scanBound) (h : ∀ (h2 : Heap) (tk : Nat), SetV w h2 s.heap.objs.size (dedupK ks) → (∀ b o, s.heap.get? b = some o → h2.get? b = some o) → Q (.ref s.heap.objs.size) { s with heap := h2, toks := tk }) :
    wpAny (model P w) A (call (.type "set") [.ref l]) Q E s := by
  obtain ⟨c, tl, hmro⟩ := PySem.F.called_set.mro
  have hmade := PySem.F.called_set.made
  have hsub := PySem.F.called_set.sub
  refine wpAny_call (codeAny_of_tree ?_)
  show wpAny _ _ (callAny (.type "set") _) _ _ _
  refine wpAny_pure ⟨Code.quiet_builtin _ (by decide +kernel), codeAny_builtin F.entry_type_call ?_⟩
  rw [Around.under_plain (weight_type_call_type "set" [.ref l] []) rfl]
  have h1 := PySem.F.called_set.notType
  have h2 := PySem.F.called_set.canCreate
  have hct := PySem.F.typeCall_set_1 (.ref l)
  repeat (any_goals (first | assumption | wp_step))
  have hnew : setObj0 w = { cls := .type "set", dict := none, data := .set #[] 0 (.fresh 0 0 (!w.params.followText "set-order")) } := rfl
  refine codeAny_mono (code_set_led1 (.ref l) (E := E) (Q₁ := fun obj s1 => obj = .ref s.heap.objs.size ∧ s1 = { s with heap := s.heap.push (setObj0 w) }) ⟨rfl, rfl⟩) fun r s1 hr => ?_
  cases r with
  | error e => exact hr
  | ok fl =>
    cases fl with
    | ret obj =>
      obtain ⟨rfl, rfl⟩ := hr
      have hS : (s.heap.push (setObj0 w)).get? s.heap.objs.size = some (setObj0 w) := Heap.get?_push_size _ rfl
      have hT : Shared.TypeIs { s with heap := s.heap.push (setObj0 w) } (.ref s.heap.objs.size) "set" := ⟨_, hS, rfl⟩
      have hli := PySem.F.called_set.init.lookup
      have hbi := PySem.F.called_set.init.bind (.ref s.heap.objs.size)
      repeat (any_goals (first | assumption | wp_step))
      refine codeAny_mono (codeAny_call_builtin (R := wants (fun r s2 => r = .none ∧ ∃ h2 tk, s2 = { s with heap := h2, toks := tk } ∧ SetV w h2 s.heap.objs.size (dedupK ks) ∧ (∀ b o, s.heap.get? b = some o → h2.get? b = some o)) E)
        PySem.F.called_set.init.plain PySem.F.entry_set_init (check_set_init_1 hT ?_)) fun r2 s2 hr2 => ?_
      · obtain ⟨ol, hol, hcl, nl, hdl⟩ := hl
        obtain ⟨ocls, odict, odata, oslots⟩ := ol
        simp only at hcl hdl
        subst hcl
        subst hdl
        have hol2 : (s.heap.push (setObj0 w)).get? l = some { cls := .type "list", dict := odict, data := .seq items nl, slots := oslots } := Heap.get?_push_of_some _ hol
        have hsls := PySem.F.sub_list_set
        have hslf := PySem.F.sub_list_frozenset
        have hne : (Value.type "list" == Value.type "dict") = false := by decide
        have hl1 : (s.heap.push (setObj0 w)).IsList l items := ⟨_, hol2, rfl, nl, rfl⟩
        unfold Builtin.«set.__init__» noKeywords Builtin.Frozenset.updateFrom
        generalize hPI : pyIter = PI
        wp_walk
        subst hPI
        refine wpAny_pyIter_list hl1 (wpAny_bind (wpAny_runValue ?_))
        have hlS : l < s.heap.objs.size := Heap.lt_size hol
        have hh3 : A.in1.in1.in1.handled = none := by simp [hh]
        have hz1 : (s.heap.push (setObj0 w)).objs.size = s.heap.objs.size + 1 := Heap.size_push ..
        have hneI : l ≠ (s.heap.push (setObj0 w)).objs.size := by rw [hz1]; exact Nat.ne_of_lt (Nat.lt_succ_of_lt hlS)
        have hSf : s.heap.objs.size ∉ [(s.heap.push (setObj0 w)).objs.size, l] := by
          simp only [List.mem_cons, List.not_mem_nil, or_false, not_or]
          exact ⟨by rw [hz1]; exact Nat.ne_of_lt (Nat.lt_succ_self _), Nat.ne_of_gt hlS⟩
        refine setV_fill ((Walks.list hh3 _ l hneI items).toS) s.heap.objs.size hSf ks hsz hb hit (items.size - 0) 0 _ rfl (Nat.zero_le _) ⟨⟨_, Heap.get?_push_size _ rfl, rfl, rfl⟩, hl1.push _⟩ ?_ ?_
        · exact setV_new (Heap.get?_push_of_some _ hS)
        · intro s3 hm hV
          obtain ⟨h3, g3, d3, tk3, os3⟩ := s3
          have eg : g3 = s.gens := hm.gens
          have ed : d3 = s.drawn := hm.drawn
          have eo : os3 = s.os := hm.os
          subst eg ed eo
          show wpAny _ _ _ _ _ _
          refine wpAny_pure ?_
          show wpAny _ _ (ret Value.none) _ _ _
          refine wpAny_pure ⟨rfl, h3, tk3, rfl, hV, fun b o e => ?_⟩
          have hb0 : b < s.heap.objs.size := Heap.lt_size e
          refine hm.heap b o ?_ (Heap.get?_push_of_some _ (Heap.get?_push_of_some _ e))
          simp only [List.mem_cons, List.not_mem_nil, or_false, not_or]
          exact ⟨Nat.ne_of_lt hb0, by rw [hz1]; exact Nat.ne_of_lt (Nat.lt_succ_of_lt hb0)⟩
      · cases r2 with
        | error e => exact hr2
        | ok f2 =>
          cases f2 with
          | ret r =>
            obtain ⟨rfl, h2, tk, rfl, hV, hk⟩ := hr2
            repeat (any_goals (first | assumption | wp_step))
            exact h _ _ hV hk
          | _ => exact hr2.elim
    | _ => exact hr.elim
end
end Fw
set_option Elab.async false
set_option linter.all false
set_option maxRecDepth 100000
set_option maxHeartbeats 2000000
/-! Fw27: sorted(set(t)). -/
namespace Fw
open PySem PySem.Spec PyProof.Rows L2
open PySem.W (AllAlike Sortable dataLe alike)
/-! ### keys as data -/
theorem kD_eqv {a b : Key} : PyData.eqv (kD a) (kD b) = decide (a = b) := by
  cases a with
  | inl i => cases b with
    | inl j =>
      by_cases h : i = j
      · subst h; simp [kD]
      · have h2 : ¬ (Sum.inl i : Key) = .inl j := fun q => h (Sum.inl.inj q)
        simp [kD, h, h2]
    | inr y =>
      have h2 : ¬ (Sum.inl i : Key) = .inr y := fun q => by cases q
      rw [decide_eq_false h2]
      show PyData.eqv (.int i) (.str y) = false
      unfold PyData.eqv
      rfl
  | inr x => cases b with
    | inl j =>
      have h2 : ¬ (Sum.inr x : Key) = .inl j := fun q => by cases q
      rw [decide_eq_false h2]
      show PyData.eqv (.str x) (.int j) = false
      unfold PyData.eqv
      rfl
    | inr y =>
      by_cases h : x = y
      · subst h; simp [kD]
      · have h2 : ¬ (Sum.inr x : Key) = .inr y := fun q => h (Sum.inr.inj q)
        simp [kD, h, h2]
theorem kD_inj {a b : Key} (h : kD a = kD b) : a = b := by
  cases a <;> cases b <;> cases h <;> rfl
theorem any_kD {acc : List Key} {k : Key} : ((acc.map kD).any fun x => PyData.eqv x (kD k)) = hasK k acc := by
  unfold hasK
  rw [List.any_map]
  congr 1
  funext x
  exact kD_eqv
theorem dedup_keys {ks acc : List Key} : (ks.map kD).foldl addD (acc.map kD) = (ks.foldl addK acc).map kD := by
  induction ks generalizing acc with
  | nil => rfl
  | cons k ks ih =>
    rw [List.map_cons, List.foldl_cons, List.foldl_cons, ← ih]
    congr 1
    unfold addD addK
    rw [any_kD]
    by_cases h : hasK k acc = true <;> simp [h]
theorem dedupD_keys {ks : List Key} : dedupD (ks.map kD) = (dedupK ks).map kD := dedup_keys (acc := [])
theorem one_kind {ks : List Key} (h : AllAlike (ks.map kD)) : (∃ zs : List Int, ks = zs.map .inl) ∨ ∃ zs : List Str, ks = zs.map .inr := by
  induction ks with
  | nil => exact .inl ⟨[], rfl⟩
  | cons k ks ih =>
    have h2 : AllAlike (ks.map kD) := fun d hd d2 hd2 => h d (List.mem_cons_of_mem _ hd) d2 (List.mem_cons_of_mem _ hd2)
    have hk : ∀ k2, k2 ∈ ks → alike (kD k) (kD k2) = true := fun k2 hk2 => h _ List.mem_cons_self _ (List.mem_cons_of_mem _ (List.mem_map_of_mem hk2))
    cases k with
    | inl i =>
      refine .inl ?_
      rcases ih h2 with ⟨zs, rfl⟩ | ⟨zs, rfl⟩
      · exact ⟨i :: zs, rfl⟩
      · cases zs with
        | nil => exact ⟨[i], rfl⟩
        | cons z zs =>
          have := hk (.inr z) List.mem_cons_self
          cases this
    | inr x =>
      refine .inr ?_
      rcases ih h2 with ⟨zs, rfl⟩ | ⟨zs, rfl⟩
      · cases zs with
        | nil => exact ⟨[x], rfl⟩
        | cons z zs =>
          have := hk (.inl z) List.mem_cons_self
          cases this
      · exact ⟨x :: zs, rfl⟩
def leK : Key → Key → Bool := dataLe false kD
theorem sortD_keys {ks : List Key} : sortD (ks.map kD) = (ks.mergeSort leK).map kD := by
  unfold sortD
  exact (List.map_mergeSort (r := leK) (s := dataLe false id) (f := kD) (l := ks) fun a _ b _ => rfl).symm
theorem strs_uniq {as bs : List Str} (p : as.Perm bs) : as.mergeSort strLe = bs.mergeSort strLe := by
  have h1 := List.pairwise_mergeSort (le := strLe) strLe_trans strLe_total as
  have h2 := List.pairwise_mergeSort (le := strLe) strLe_trans strLe_total bs
  exact ((List.mergeSort_perm as strLe).trans (p.trans (List.mergeSort_perm bs strLe).symm)).eq_of_pairwise (fun a b _ _ x y => strLe_anti x y) h1 h2
def fI : Key → Int
  | .inl i => i
  | _ => 0
def fS : Key → Str
  | .inr x => x
  | _ => ""
theorem sortK_uniq {as bs : List Key} (p : as.Perm bs) (h : AllAlike (bs.map kD)) : as.mergeSort leK = bs.mergeSort leK := by
  have e : sortD (as.map kD) = sortD (bs.map kD) := by
    rcases one_kind h with ⟨zs, rfl⟩ | ⟨zs, rfl⟩
    · have hy : as.map kD = (as.map fI).map .int := by
        rw [List.map_map]
        refine List.map_congr_left fun a ha => ?_
        obtain ⟨z, _, rfl⟩ := List.mem_map.mp (p.mem_iff.mp ha)
        rfl
      have hz : (zs.map (Sum.inl : Int → Key)).map kD = zs.map .int := by
        rw [List.map_map]
        rfl
      have hp : (as.map fI).Perm zs := by
        have q := p.map fI
        rw [List.map_map] at q
        have i1 : zs.map (fI ∘ (Sum.inl : Int → Key)) = zs := List.map_id zs
        rwa [i1] at q
      rw [hy, hz, sortD_ints, sortD_ints]
      congr 1
      exact ints_uniq sortI_pw sortI_pw ((List.mergeSort_perm _ _).trans (hp.trans (List.mergeSort_perm _ _).symm))
    · have hy : as.map kD = (as.map fS).map .str := by
        rw [List.map_map]
        refine List.map_congr_left fun a ha => ?_
        obtain ⟨z, _, rfl⟩ := List.mem_map.mp (p.mem_iff.mp ha)
        rfl
      have hz : (zs.map (Sum.inr : Str → Key)).map kD = zs.map .str := by
        rw [List.map_map]
        rfl
      have hp : (as.map fS).Perm zs := by
        have q := p.map fS
        rw [List.map_map] at q
        have i1 : zs.map (fS ∘ (Sum.inr : Str → Key)) = zs := List.map_id zs
        rwa [i1] at q
      rw [hy, hz, sortD_strs, sortD_strs, strs_uniq hp]
  rw [sortD_keys, sortD_keys] at e
  exact (List.map_inj_right fun a b => kD_inj).mp e
/-! ### sorted, of a value whose items come in some order -/
section
variable {X : Cx}
theorem sort_any {pins : List (Addr × Obj)} {σ : L2.St} {H : Hp} {s : Shared} {y : Value} {Q : VK}
    (hcol : ∀ (E : Value → Shared → Prop) (R : List Value → Shared → Prop), (∀ (acc : List Value) (s2 : Shared) (vs : List V) (ds : List D), Inv X pins σ H s2 → Vals vs acc → Paired (Dp X.K H) vs ds → AllAlike ds → Sortable ds → ds.length ≤ sizeLine →
      (∀ d, d ∈ ds → X.A.units + 2 + d.depth < cLine) → (∀ p, H p = none → Q (.ref p) (upd H p (.lst (((vs.zip ds).mergeSort (dataLe false Prod.snd)).map (·.1))))) → R acc s2) → wpAny (model X.prog X.w) X.A.in1 (collect y) R E s) :
    wpAny (model X.prog X.w) X.A (call (.builtin "sorted") [y]) (EP X pins σ Q) X.xe s := by
  refine Calls.call_function_entry PyProof.Rows.kind_sorted PyProof.Rows.plain_sorted PyProof.Rows.entry_sorted (PyProof.Rows.args_sorted1 _) ?_
  unfold Builtin.«sorted»
  refine wpAny_bind (m := checkCount "sorted" 1 1 _) (wpAny_pure ?_)
  refine wpAny_bind (hcol _ _ fun acc s2 vs ds I1 hv hdp hal hk hL hu q => ?_)
  have hlen := hdp.length
  have hz := zip_snd hlen
  have hal2 : acc.length = ds.length := by rw [← hlen, hv.length]
  refine wpAny_bind (wpAny_newList ?_ (by rw [hal2]; exact hL))
  have hoL : (s2.heap.push (seqObj "list" acc.toArray 0)).get? s2.heap.objs.size = some (seqObj "list" acc.toArray 0) := Heap.get?_push_size _ rfl
  show wpAny _ _ _ _ _ { s2 with heap := s2.heap.push (seqObj "list" acc.toArray 0) }
  have e0 := vals_each I1 hdp hv
  have hb : ∀ b o, s2.heap.get? b = some o → (PySem.W.sortingHeap (s2.heap.push (seqObj "list" acc.toArray 0)) s2.heap.objs.size acc).get? b = some o := fun b o e =>
    PySem.W.sortingHeap_old (Nat.ne_of_lt (Heap.lt_size e)) (Heap.get?_push_of_some _ e)
  have e1 : PySem.W.EachIs (fun v (b : V × D) => RelV b.1 v ∧ ∃ as, Reads (PySem.W.sortingHeap (s2.heap.push (seqObj "list" acc.toArray 0)) s2.heap.objs.size acc) v b.2 as) acc (vs.zip ds) :=
    e0.mono fun v b ⟨r1, as, r2⟩ => ⟨r1, as, PyProof.Rows.Reads.keeps hb r2⟩
  have e2 : PySem.W.EachIs (fun v (b : V × D) => ∃ as, Reads (PySem.W.sortingHeap (s2.heap.push (seqObj "list" acc.toArray 0)) s2.heap.objs.size acc) v b.2 as) acc (vs.zip ds) := e1.mono fun v b r => r.2
  have hal3 : AllAlike ((vs.zip ds).map Prod.snd) := by rw [hz]; exact hal
  refine wpAny_bind (wpAny_holding (wpAny_call_entry PyProof.Rows.slot_list_sort ⟨_, hoL, rfl⟩ PyProof.Rows.entry_list_sort
    (PySem.W.list_sort_vals (κ := PySem.W.dataKind (PySem.W.sortingHeap (s2.heap.push (seqObj "list" acc.toArray 0)) s2.heap.objs.size acc) ((vs.zip ds).map Prod.snd)) hoL
      (PySem.W.SortsAt.data (s := { s2 with heap := PySem.W.sortingHeap (s2.heap.push (seqObj "list" acc.toArray 0)) s2.heap.objs.size acc })
        (PySem.W.each_map (R := fun v d => ∃ as, Reads (PySem.W.sortingHeap (s2.heap.push (seqObj "list" acc.toArray 0)) s2.heap.objs.size acc) v d as) Prod.snd e2) hal3 (by rw [hz]; exact hk) (by rw [hz]; exact hu)) (by rw [hal2]; exact hL) ⟨_, rfl, ?_⟩)
    (PyProof.Rows.args_list_sort _)))
  have e3 := PySem.W.sortVals_data (h' := PySem.W.sortingHeap (s2.heap.push (seqObj "list" acc.toArray 0)) s2.heap.objs.size acc) (enc := Prod.snd) false e1 e2 hal3
  have hout := each_vals (fun v b r => r.1) e3
  obtain ⟨u2, hu2⟩ := PyProof.Rows.sortedHeap_at (vs := acc) (out := (PySem.W.sortVals (PySem.W.dataKind (PySem.W.sortingHeap (s2.heap.push (seqObj "list" acc.toArray 0)) s2.heap.objs.size acc) ((vs.zip ds).map Prod.snd)) false acc acc).toArray) hoL
  have hlen2 : (((vs.zip ds).mergeSort (dataLe false Prod.snd)).map (·.1)).length ≤ sizeLine := by
    rw [List.length_map, List.length_mergeSort, List.length_zip, hlen, Nat.min_self]
    exact hL
  refine wpAny_pure ⟨_, rfl, .ref s2.heap.objs.size, upd H s2.heap.objs.size (.lst (((vs.zip ds).mergeSort (dataLe false Prod.snd)).map (·.1))), I1.laid (t' := s2.toks) (fun b u e => ?_) (Nat.le_refl _)
    (show ObjOk X.prog X.w _ _ _ (.lst _) from ⟨hlen2, _, u2, hout, hu2⟩), rfl, q _ (I1.hok.fresh (Nat.le_refl _))⟩
  have hlt : b < s2.heap.objs.size := Heap.lt_size e
  rw [PyProof.Rows.sortedHeap_old (Nat.ne_of_lt hlt) (by rw [size_push']; exact Nat.lt_succ_of_lt hlt)]
  exact Heap.get?_push_of_some _ e
theorem keys_vals {vs : List V} {us : List Value} {ks : List Key} (r : Vals vs us) (h : vs = ks.map kV) : ∀ (i : Nat) (v : Value), us[i]? = some v → ∃ k : Key, ks[i]? = some k ∧ keyIs k v = true := by
  subst h
  intro i v hv
  have hlt : i < ks.length := by
    have h1 := r.length
    have h2 := (List.getElem?_eq_some_iff.mp hv).1
    rw [List.length_map] at h1
    omega
  obtain ⟨u, q1, q2⟩ := r.get (i := i) (x := kV ks[i]) (by rw [List.getElem?_map, List.getElem?_eq_getElem hlt]; rfl)
  rw [hv] at q1
  cases q1
  refine ⟨ks[i], List.getElem?_eq_getElem hlt, ?_⟩
  generalize ks[i] = k at q2 ⊢
  cases k with
  | inl i => obtain ⟨t, rfl⟩ := q2; exact keyIs_int _ _
  | inr x => obtain ⟨t, rfl⟩ := q2; exact keyIs_str _ _
theorem vals_keys : ∀ {us : List Value}, (∀ u, u ∈ us → ∃ k, keyIs k u = true) → ∃ ks : List Key, Vals (ks.map kV) us ∧ Paired (fun k u => keyIs k u = true) ks us
  | [], _ => ⟨[], .nil, .nil⟩
  | u :: us, h => by
    obtain ⟨k, hk⟩ := h u List.mem_cons_self
    obtain ⟨ks, q1, q2⟩ := vals_keys (us := us) fun x hx => h x (List.mem_cons_of_mem _ hx)
    refine ⟨k :: ks, .cons ?_ q1, .cons hk q2⟩
    rcases keyIs_shape hk with ⟨i, t, rfl, rfl⟩ | ⟨x, t, rfl, rfl⟩
    · exact ⟨t, rfl⟩
    · exact ⟨t, rfl⟩
theorem pair_keys {w : World} : ∀ {ks : List Key} {es : List (Int × Value)}, Paired (fun k u => keyIs k u = true) ks (es.map (·.2)) → es.map keyE = ks
  | _, [], .nil => rfl
  | _, e :: es, .cons a b => by rw [List.map_cons, keyE_of a, pair_keys (w := w) b]
def keyU : Value → Key
  | .int i _ => .inl i
  | .str x _ => .inr x
  | _ => .inl 0
theorem keyU_of {k : Key} {v : Value} (h : keyIs k v = true) : keyU v = k := by
  rcases keyIs_shape h with ⟨i, t, rfl, rfl⟩ | ⟨x, t, rfl, rfl⟩ <;> rfl
theorem keyE_u {e : Int × Value} : keyE e = keyU e.2 := by
  obtain ⟨n, v⟩ := e
  cases v <;> rfl
theorem pair_u : ∀ {ks : List Key} {us : List Value}, Paired (fun k u => keyIs k u = true) ks us → us.map keyU = ks
  | _, _, .nil => rfl
  | _, _, .cons a b => by rw [List.map_cons, keyU_of a, pair_u b]
theorem dp_keys {K : PySem.W.Frag} {H : Hp} : ∀ {ks : List Key}, Paired (Dp K H) (ks.map kV) (ks.map kD)
  | [] => .nil
  | .inl i :: ks => .cons (.int i) dp_keys
  | .inr x :: ks => .cons (.str x) dp_keys
theorem zip_keys {ks : List Key} : (((ks.map kV).zip (ks.map kD)).mergeSort (dataLe false Prod.snd)).map (·.1) = (ks.mergeSort leK).map kV := by
  rw [List.zip_map']
  have := (List.map_mergeSort (r := leK) (s := dataLe false Prod.snd) (f := fun k => (kV k, kD k)) (l := ks) fun a _ b _ => rfl)
  rw [← this, List.map_map]
  rfl
def rSSet (K : PySem.W.Frag) : V → Hp → VK → Prop := fun v H Q => ∃ p ks, v = V.ref p ∧ (SqL K H p (ks.map kV) ∨ SqT K H p (ks.map kV)) ∧ ks.length ≤ 1000 ∧ sortOk ((dedupK ks).map kD) = true ∧ ∀ q, H q = none → Q (.ref q) (upd H q (.lst (((dedupK ks).mergeSort leK).map kV)))
theorem pe_sortedSet {e : Expr} {ta : TE} {p p2 pos pos2 : Pos} (hc : X.calm = true) (hu : X.A.units + 66 < cLine) (hg : Gl X "sorted") (hm : X.mg "sorted" = none) (hg2 : Gl X "set") (hm2 : X.mg "set" = none) (ha : PE X e ta)
    (he : starEach [e] X.env = (false, eval e X.env) :: starEach [] X.env) :
    PE X (.Call (.Name "sorted" p) [.Call (.Name "set" p2) [e] [] pos2] [] pos) (tUn (rSSet X.K) ta) := by
  refine ⟨fun pins s σ H Q I h => ?_⟩
  refine wpAny_Call_Name_kw (ld_blt I hg hm PyProof.Rows.boot_sorted ?_)
  refine PyProof.Rows.callWith_builtin1 ?_ rfl rfl
  refine Calls.spliced_cons (Q := fun us s1 => wpAny (model X.prog X.w) X.A (call (.builtin "sorted") us) (EP X pins σ Q) X.xe s1) ?_
  refine wpAny_Call_Name_kw (ld_blt I hg2 hm2 PyProof.Rows.boot_set ?_)
  refine PyProof.Rows.callWith_type1 ?_ he rfl
  rw [he]
  refine Calls.spliced_cons (thn (ha.run pins s σ H _ I h) fun u s1 ⟨x, H1, I1, r1, q1⟩ => Calls.spliced_nil ?_)
  obtain ⟨p0, ks, rfl, hq, hl, hso, q⟩ := q1
  cases r1
  have hd := I1.ok.hd hc
  suffices hs : ∀ (h2 : Heap) (tk : Nat), SetV X.w h2 s1.heap.objs.size (dedupK ks) → (∀ b o, s1.heap.get? b = some o → h2.get? b = some o) → wpAny (model X.prog X.w) X.A (spliced []) (fun vs s2 => wpAny (model X.prog X.w) X.A (call (.builtin "sorted") (Value.ref s1.heap.objs.size :: vs)) (EP X pins σ Q) X.xe s2) X.xe { s1 with heap := h2, toks := tk } by
    rcases hq with hq | hq
    · obtain ⟨its, rv, pt, hz⟩ := I1.list hq
      have hsz : its.toArray.size = ks.length := by
        have := rv.length
        rw [List.length_map] at this
        simpa using this.symm
      exact call_setL ks hd (show s1.heap.IsList p0 its.toArray from pt.isList) hsz (fun i v hv => keys_vals rv rfl i v (by simpa using hv)) (by unfold scanBound; omega) hs
    · obtain ⟨its, rv, pt, hz⟩ := I1.tuple hq
      have hsz : its.toArray.size = ks.length := by
        have := rv.length
        rw [List.length_map] at this
        simpa using this.symm
      exact call_setT ks hd (show s1.heap.IsTuple p0 its.toArray from pt) hsz (fun i v hv => keys_vals rv rfl i v (by simpa using hv)) (by unfold scanBound; omega) hs
  intro h2 tk R1 k
  refine Calls.spliced_nil ?_
  have I2 : Inv X pins σ H1 { s1 with heap := h2, toks := tk } := I1.kept k
  refine sort_any (H := H1) fun E R hR => ?_
  obtain ⟨o, es, ep, t, ho, hex, hdt, g, pk, nd, hb, hf, hr, hl2⟩ := R1
  refine collect_set (s := { s1 with heap := h2, toks := tk }) hd ⟨o, ho, hex.1, hdt⟩ hf hb hr hl2 fun s3 out k3 hz3 g3 o3 pm => ?_
  have I3 : Inv X pins σ H1 s3 := I2.call' (ch := []) o3 (Un.kept k3) (I2.hok.kept k3) (by rw [g3]; exact I2.bare) fun _ z => by cases z
  obtain ⟨ks3, v1, v2⟩ := vals_keys (us := out) fun u hu => by
    obtain ⟨e0, h0, rfl⟩ := List.mem_map.mp (pm.mem_iff.mp hu)
    obtain ⟨k0, q1, _⟩ := g e0 h0
    exact ⟨k0, q1⟩
  have hp3 : ks3.Perm (dedupK ks) := by
    have q1 := pm.map keyU
    rw [pair_u v2, List.map_map] at q1
    have q2 : es.toList.map (keyU ∘ fun x => x.2) = es.toList.map keyE := List.map_congr_left fun e _ => keyE_u.symm
    rw [q2] at q1
    exact q1.trans pk
  obtain ⟨g1, g2, g4, g5, g6⟩ := sortOk_get hso
  have hmem : ∀ d, d ∈ ks3.map kD ↔ d ∈ (dedupK ks).map kD := fun d => (hp3.map kD).mem_iff
  refine hR out s3 (ks3.map kV) (ks3.map kD) I3 v1 dp_keys (fun d hd d2 hd2 => g1 d ((hmem d).mp hd) d2 ((hmem d2).mp hd2)) ?_ (by rw [(hp3.map kD).length_eq]; exact g4) (fun d hd => by have := g5 d ((hmem d).mp hd); omega) fun q0 hq0 => ?_
  · rcases g2 with g2 | g2
    · exact .inl fun d hd => g2 d ((hmem d).mp hd)
    · exact .inr fun d hd => g2 d ((hmem d).mp hd)
  · rw [zip_keys, sortK_uniq hp3 g1]
    exact q q0 hq0
end
/-! ### the mirror -/
section
variable {K : Kx} {mg : Str → Option Value} {W : WX} {G H : Hp}
theorem Rl.keys2 : ∀ {vs : List V} {ds : List D} {ks : List Key}, Rl K mg G vs ds → keysD ds = some ks → vs = ks.map kV ∧ ds = ks.map kD
  | _, _, _, .nil, h => by cases h; exact ⟨rfl, rfl⟩
  | _, .int i :: ds, _, .cons a b, h => by
    obtain ⟨ms, hm, rfl⟩ := Option.map_eq_some_iff.mp (show (keysD ds).map (.inl i :: ·) = some _ from h)
    cases a
    obtain ⟨q1, q2⟩ := Rl.keys2 b hm
    rw [q1, q2]
    exact ⟨rfl, rfl⟩
  | _, .str i :: ds, _, .cons a b, h => by
    obtain ⟨ms, hm, rfl⟩ := Option.map_eq_some_iff.mp (show (keysD ds).map (.inr i :: ·) = some _ from h)
    cases a
    obtain ⟨q1, q2⟩ := Rl.keys2 b hm
    rw [q1, q2]
    exact ⟨rfl, rfl⟩
theorem rl_kd : ∀ {ks : List Key}, Rl K mg G (ks.map kV) (ks.map kD)
  | [] => .nil
  | .inl i :: ks => .cons (.int i) rl_kd
  | .inr x :: ks => .cons (.str x) rl_kd
theorem sset_get {ds : List D} {z : Vx} (h : (if (setOk ds && sortOk (dedupD ds)) = true then some (Vx.nw (.list (sortD (dedupD ds)))) else none) = some z) : ∃ ks, keysD ds = some ks ∧ ds.length ≤ 1000 ∧ sortOk (dedupD ds) = true ∧ z = .nw (.list (sortD (dedupD ds))) := by
  split at h
  · rename_i c
    cases h
    rw [Bool.and_eq_true] at c
    obtain ⟨c1, c2⟩ := c
    unfold setOk at c1
    rw [Bool.and_eq_true, decide_eq_true_eq] at c1
    obtain ⟨ks, hks⟩ := Option.isSome_iff_exists.mp c1.1
    exact ⟨ks, hks, c1.2, c2, rfl⟩
  · cases h
theorem u_sset : UnI K mg (rSSet K.K) dSortedSet := by
  intro P G H e σ x dx z Q rl ro h k
  unfold dSortedSet at h
  split at h
  · obtain ⟨ks, hks, c3, c2, rfl⟩ := sset_get h
    cases ro with
    | tup e1 l1 =>
      obtain ⟨rfl, rfl⟩ := Rl.keys2 l1 hks
      rw [dedupD_keys] at c2 k
      rw [sortD_keys] at k
      exact ⟨_, ks, rfl, .inr (rl.sub.q e1), by simpa using c3, c2, newL rl rl_kd k⟩
  · obtain ⟨ks, hks, c3, c2, rfl⟩ := sset_get h
    cases ro with
    | lst e1 l1 =>
      obtain ⟨rfl, rfl⟩ := Rl.keys2 l1 hks
      rw [dedupD_keys] at c2 k
      rw [sortD_keys] at k
      exact ⟨_, ks, rfl, .inl (SqL.of e1), by simpa using c3, c2, newL rl rl_kd k⟩
  · cases h
end
section
variable {c : Ct} {W : WX} {N : List Str} {sc : Sx} {k : Nat} {pos p : Pos} {a : Expr} {ma : Mo Vx}
theorem j_sortedSet {p2 pos2 : Pos} (h1 : c.mg ("sorted" : Str) = none) (h2 : c.mg ("set" : Str) = none) (ha : JE c W N sc k a ma) (hg : sc.names.lookup ("sorted" : Str) = some .globalImplicit := by rfl) (hg2 : sc.names.lookup ("set" : Str) = some .globalImplicit := by rfl)
    (he : ∀ env, starEach [a] env = (false, eval a env) :: starEach [] env := by intro _; rfl) :
    JE c W N sc k (.Call (.Name "sorted" p) [.Call (.Name "set" p2) [a] [] pos2] [] pos) (mUn dSortedSet ma) := by
  obtain ⟨ta, g1, g2⟩ := ha
  exact ⟨_, fun X h => by have := pe_sortedSet (X := X) (p := p) (p2 := p2) (pos := pos) (pos2 := pos2) h.calm h.un (gl_of h hg) (by rw [h.mg]; exact h1) (gl_of h hg2) (by rw [h.mg]; exact h2) (g1 X h) (he _); rw [h.kk] at this; exact this, i_un u_sset g2⟩
end
end Fw
set_option Elab.async false
set_option linter.all false
set_option maxRecDepth 100000
set_option maxHeartbeats 400000
/-! Fw28: expressions that change nothing, by small terms. -/
namespace Fw
open PySem PySem.Spec PyProof.Rows L2
section
variable {e : En} {d : D} {i : Nat}
/-- x reads as d, now and when it is frozen -/
def Vok (x : Vx) (e : En) (d : D) : Prop := x.d e = some d ∧ ∀ Q : D → En → Prop, Q d e → wM (mVal x) e Q
theorem vok_v : Vok (.v d) e d := ⟨rfl, fun Q h => by rw [w_val_v]; exact h⟩
theorem vok_nw : Vok (.nw d) e d := ⟨rfl, fun Q h => by rw [w_val_nw]; exact h⟩
theorem vok_pl (h : e[i]? = some (.fz d)) : Vok (.pl i) e d := ⟨by rw [d_pl, h]; rfl, fun Q q => by rw [w_val_pl, h]; exact q⟩
/-- m gives d, and nothing changes -/
def EvD (m : Mo Vx) (e : En) (d : D) : Prop := wM m e fun x e1 => e1 = e ∧ Vok x e d
/-- m gives a new object -/
def EvN (m : Mo Vx) (e : En) (d : D) : Prop := wM m e fun x e1 => e1 = e ∧ x = .nw d
/-- m gives a value -/
def EvV (m : Mo Vx) (e : En) (d : D) : Prop := wM m e fun x e1 => e1 = e ∧ x = .v d
theorem EvN.toD {m : Mo Vx} (h : EvN m e d) : EvD m e d := h.mono fun x e1 ⟨q1, q2⟩ => ⟨q1, by rw [q2]; exact vok_nw⟩
theorem EvV.toD {m : Mo Vx} (h : EvV m e d) : EvD m e d := h.mono fun x e1 ⟨q1, q2⟩ => ⟨q1, by rw [q2]; exact vok_v⟩
theorem ev_c : EvV (mC d) e d := by
  unfold EvV
  rw [w_c]
  exact ⟨rfl, rfl⟩
theorem ev_var (h : e[i]? = some (.fz d)) : EvV (mVar i) e d := by
  unfold EvV
  rw [w_var, h]
  exact ⟨rfl, rfl⟩
/-- a place read by an operation alone -/
theorem ev_ow (h : e[i]? = some (.ow d)) : wM (mVar i) e fun x e1 => e1 = e ∧ x.d e = some d := by
  rw [w_var, h]
  exact ⟨rfl, by rw [d_pl, h]; rfl⟩
def EvL (ms : Mo (List Vx)) (e : En) (ds : List D) : Prop := wM ms e fun xs e1 => e1 = e ∧ Vx.ds e xs = some ds ∧ ∀ Q : List D → En → Prop, Q ds e → wM (mVals xs) e Q
theorem evs_nil : EvL mNil e [] := by
  unfold EvL
  rw [w_nil]
  exact ⟨rfl, rfl, fun Q q => by rw [w_vals_nil]; exact q⟩
theorem evs_cons {m : Mo Vx} {ms : Mo (List Vx)} {ds : List D} (h : EvD m e d) (hs : EvL ms e ds) : EvL (mCons m ms) e (d :: ds) := by
  unfold EvL
  rw [w_cons]
  refine h.mono ?_
  rintro x e1 ⟨rfl, q1, q2⟩
  refine hs.mono ?_
  rintro xs e2 ⟨rfl, q3, q4⟩
  refine ⟨rfl, ?_, fun Q q => ?_⟩
  · rw [ds_cons, q1, q3]
    rfl
  · rw [w_vals_cons]
    exact q2 _ (q4 _ q)
theorem ev_tup {ms : Mo (List Vx)} {ds : List D} (h : EvL ms e ds) (hl : ds.length ≤ 16777216 := by simp) : EvV (mTup ms) e (.tuple ds) := by
  unfold EvV
  rw [w_tup]
  refine h.mono ?_
  rintro xs e1 ⟨rfl, _, q⟩
  exact q _ ⟨by rw [sizeLine_eq]; exact hl, rfl, rfl⟩
theorem ev_lst {ms : Mo (List Vx)} {ds : List D} (h : EvL ms e ds) (hl : ds.length ≤ 16777216 := by simp) : EvN (mLst ms) e (.list ds) := by
  unfold EvN
  rw [w_lst]
  refine h.mono ?_
  rintro xs e1 ⟨rfl, _, q⟩
  exact q _ ⟨by rw [sizeLine_eq]; exact hl, rfl, rfl⟩
theorem ev_opV {ma mb : Mo Vx} {f : D → D → Option Vx} {a b z : D} (ha : EvD ma e a) (hb : EvD mb e b) (h : f a b = some (.v z)) : EvV (mOp f ma mb) e z := by
  unfold EvV
  rw [w_op]
  refine ha.mono ?_
  rintro x e1 ⟨rfl, q1, q2⟩
  refine hb.mono ?_
  rintro y e2 ⟨rfl, q3, q4⟩
  rw [q1, q3, w2_some, h]
  exact ⟨rfl, rfl⟩
theorem ev_opVr {ma mb : Mo Vx} {f : D → D → Option Vx} {a b z : D} (ha : wM ma e fun x e1 => e1 = e ∧ x.d e = some a) (hb : wM mb e fun x e1 => e1 = e ∧ x.d e = some b) (h : f a b = some (.v z)) : EvV (mOp f ma mb) e z := by
  unfold EvV
  rw [w_op]
  refine ha.mono ?_
  rintro x e1 ⟨rfl, q1⟩
  refine hb.mono ?_
  rintro y e2 ⟨rfl, q3⟩
  rw [q1, q3, w2_some, h]
  exact ⟨rfl, rfl⟩
theorem ev_opN {ma mb : Mo Vx} {f : D → D → Option Vx} {a b z : D} (ha : wM ma e fun x e1 => e1 = e ∧ x.d e = some a) (hb : wM mb e fun x e1 => e1 = e ∧ x.d e = some b) (h : f a b = some (.nw z)) : EvN (mOp f ma mb) e z := by
  unfold EvN
  rw [w_op]
  refine ha.mono ?_
  rintro x e1 ⟨rfl, q1⟩
  refine hb.mono ?_
  rintro y e2 ⟨rfl, q3⟩
  rw [q1, q3, w2_some, h]
  exact ⟨rfl, rfl⟩
theorem ev_unV {ma : Mo Vx} {f : D → Option Vx} {a z : D} (ha : EvD ma e a) (h : f a = some (.v z)) : EvV (mUn f ma) e z := by
  unfold EvV
  rw [w_un]
  refine ha.mono ?_
  rintro x e1 ⟨rfl, q1, q2⟩
  rw [q1, w1_some, h]
  exact ⟨rfl, rfl⟩
theorem ev_unN {ma : Mo Vx} {f : D → Option Vx} {a z : D} (ha : EvD ma e a) (h : f a = some (.nw z)) : EvN (mUn f ma) e z := by
  unfold EvN
  rw [w_un]
  refine ha.mono ?_
  rintro x e1 ⟨rfl, q1, q2⟩
  rw [q1, w1_some, h]
  exact ⟨rfl, rfl⟩
theorem ev_cbV {ms : Mo (List Vx)} {f : List D → Option Vx} {as : List D} {z : D} (ha : EvL ms e as) (h : f as = some (.v z)) : EvV (mCb f ms) e z := by
  unfold EvV
  rw [w_cb]
  refine ha.mono ?_
  rintro x e1 ⟨rfl, q1, q2⟩
  rw [q1, wL_some, h]
  exact ⟨rfl, rfl⟩
theorem ev_cbN {ms : Mo (List Vx)} {f : List D → Option Vx} {as : List D} {z : D} (ha : EvL ms e as) (h : f as = some (.nw z)) : EvN (mCb f ms) e z := by
  unfold EvN
  rw [w_cb]
  refine ha.mono ?_
  rintro x e1 ⟨rfl, q1, q2⟩
  rw [q1, wL_some, h]
  exact ⟨rfl, rfl⟩
/-- a slice's end -/
def EvP (m : Mo (Option Int)) (e : En) (o : Option Int) : Prop := wM m e fun x e1 => e1 = e ∧ x = o
theorem ep_none : EvP mNoPart e none := by
  unfold EvP
  rw [w_nopart]
  exact ⟨rfl, rfl⟩
theorem ep_some {m : Mo Vx} {z : Int} (h : EvD m e (.int z)) : EvP (mPart m) e (some z) := by
  unfold EvP
  rw [w_part]
  refine h.mono ?_
  rintro x e1 ⟨rfl, q1, q2⟩
  rw [q1]
  exact ⟨rfl, rfl⟩
theorem ev_slT {m : Mo Vx} {lo hi : Mo (Option Int)} {a b : Option Int} {ds : List D} (h : EvD m e (.tuple ds)) (h1 : EvP lo e a) (h2 : EvP hi e b) : EvV (mSl dSl m lo hi) e (.tuple (Fw.cutD ds a b)) := by
  unfold EvV
  rw [w_sl]
  refine h.mono ?_
  rintro x e1 ⟨rfl, q1, q2⟩
  refine h1.mono ?_
  rintro l e2 ⟨rfl, rfl⟩
  refine h2.mono ?_
  rintro u e3 ⟨rfl, rfl⟩
  rw [q1]
  exact ⟨rfl, rfl⟩
theorem ev_slL {m : Mo Vx} {lo hi : Mo (Option Int)} {a b : Option Int} {ds : List D} (h : wM m e fun x e1 => e1 = e ∧ x.d e = some (.list ds)) (h1 : EvP lo e a) (h2 : EvP hi e b) : EvN (mSl dSl m lo hi) e (.list (Fw.cutD ds a b)) := by
  unfold EvN
  rw [w_sl]
  refine h.mono ?_
  rintro x e1 ⟨rfl, q1⟩
  refine h1.mono ?_
  rintro l e2 ⟨rfl, rfl⟩
  refine h2.mono ?_
  rintro u e3 ⟨rfl, rfl⟩
  rw [q1]
  exact ⟨rfl, rfl⟩
theorem ev_addT {ma mb : Mo Vx} {xs ys : List D} (ha : EvD ma e (.tuple xs)) (hb : EvD mb e (.tuple ys)) (hl : xs.length + ys.length ≤ 16777216) : EvV (mOp dAdd ma mb) e (.tuple (xs ++ ys)) :=
  ev_opV ha hb (by rw [dAdd_t, if_pos (by rw [sizeLine_eq]; exact hl)])
theorem EvD.rd {m : Mo Vx} (h : EvD m e d) : wM m e fun x e1 => e1 = e ∧ x.d e = some d := h.mono fun x e1 ⟨q1, q2, _⟩ => ⟨q1, q2⟩
theorem ev_addL {ma mb : Mo Vx} {xs ys : List D} (ha : wM ma e fun x e1 => e1 = e ∧ x.d e = some (.list xs)) (hb : wM mb e fun x e1 => e1 = e ∧ x.d e = some (.list ys)) (hl : xs.length + ys.length ≤ 16777216) : EvN (mOp dAdd ma mb) e (.list (xs ++ ys)) :=
  ev_opN ha hb (by rw [dAdd_l, if_pos (by rw [sizeLine_eq]; exact hl)])
theorem ev_mulT {ma mb : Mo Vx} {xs : List D} {k : Int} (ha : EvD ma e (.tuple xs)) (hb : EvD mb e (.int k)) (h1 : 2 ≤ k) (h2 : k ≤ 1000) (hl : xs.length ≤ 1000) : EvV (mOp dMul ma mb) e (.tuple (List.replicate k.toNat xs).flatten) :=
  ev_opV ha hb (by rw [dMul_t, if_pos ⟨h1, h2, hl⟩])
/-- set, return -/
theorem ws_setN {m : Mo Vx} {Q : Ed} {e1 : En} (h : EvN m e d) (hs : setSl i (.ow d) e = some e1) (q : Q.nx e1) : wS (sSet i m) e Q := by
  rw [w_set]
  refine h.mono ?_
  rintro x e2 ⟨rfl, rfl⟩
  rw [wSet_nw, hs]
  exact q
theorem ws_setV {m : Mo Vx} {Q : Ed} {e1 : En} (h : EvV m e d) (hs : setSl i (.fz d) e = some e1) (q : Q.nx e1) : wS (sSet i m) e Q := by
  rw [w_set]
  refine h.mono ?_
  rintro x e2 ⟨rfl, rfl⟩
  rw [wSet_v, hs]
  exact q
end
theorem cut_mem {ds : List D} {lo hi : Option Int} {d : D} (h : d ∈ cutD ds lo hi) : d ∈ ds := by
  unfold Fw.cutD at h
  exact List.mem_of_mem_drop (List.mem_of_mem_take h)
theorem cut_len {ds : List D} {lo hi : Option Int} : (cutD ds lo hi).length ≤ ds.length := by
  unfold Fw.cutD
  simp
  omega
/-- at most k data, each small -/
def PL (n k : Nat) (ds : List D) : Prop := ds.length ≤ k ∧ ∀ d, d ∈ ds → sm n d = true
theorem PL.nil {n : Nat} : PL n 0 [] := ⟨Nat.le_refl _, fun d h => by cases h⟩
theorem PL.one {n : Nat} {d : D} (h : sm n d = true) : PL n 1 [d] := ⟨Nat.le_refl _, fun x hx => by rw [List.mem_singleton.mp hx]; exact h⟩
theorem PL.cons {n k : Nat} {d : D} {ds : List D} (h : sm n d = true) (h2 : PL n k ds) : PL n (k + 1) (d :: ds) := ⟨Nat.succ_le_succ h2.1, fun x hx => by
  rcases List.mem_cons.mp hx with rfl | hx
  · exact h
  · exact h2.2 x hx⟩
theorem PL.app {n k j : Nat} {xs ys : List D} (h : PL n k xs) (h2 : PL n j ys) : PL n (k + j) (xs ++ ys) := ⟨by rw [List.length_append]; exact Nat.add_le_add h.1 h2.1, fun x hx => by
  rcases List.mem_append.mp hx with hx | hx
  · exact h.2 x hx
  · exact h2.2 x hx⟩
theorem PL.cut {n k : Nat} {ds : List D} {lo hi : Option Int} (h : PL n k ds) : PL n k (cutD ds lo hi) := ⟨Nat.le_trans cut_len h.1, fun x hx => h.2 x (cut_mem hx)⟩
theorem PL.rev {n k : Nat} {ds : List D} (h : PL n k ds) : PL n k ds.reverse := ⟨by rw [List.length_reverse]; exact h.1, fun x hx => h.2 x (List.mem_reverse.mp hx)⟩
theorem PL.rep {n k : Nat} {ds : List D} (m : Nat) (h : PL n k ds) : PL n (m * k) (List.replicate m ds).flatten := ⟨by
  simp only [List.length_flatten, List.map_replicate, List.sum_replicate_nat]
  exact Nat.mul_le_mul_left m h.1, fun x hx => by
    obtain ⟨l, hl, hx⟩ := List.mem_flatten.mp hx
    rw [List.eq_of_mem_replicate hl] at hx
    exact h.2 x hx⟩
theorem PL.up {n m k : Nat} {ds : List D} (h : PL n k ds) (hn : n ≤ m) : PL m k ds := ⟨h.1, fun x hx => sm_up (h.2 x hx) hn⟩
theorem PL.t {n k : Nat} {ds : List D} (h : PL n k ds) (hk : k ≤ 1000) : sm (n + 1) (.tuple ds) = true := by
  rw [sm_t, Bool.and_eq_true, decide_eq_true_eq, List.all_eq_true]
  exact ⟨Nat.le_trans h.1 hk, h.2⟩
theorem PL.l {n k : Nat} {ds : List D} (h : PL n k ds) (hk : k ≤ 1000) : sm (n + 1) (.list ds) = true := by
  rw [sm_l, Bool.and_eq_true, decide_eq_true_eq, List.all_eq_true]
  exact ⟨Nat.le_trans h.1 hk, h.2⟩
theorem PL.map {n m k : Nat} {ds : List D} {g : D → D} (h : PL n k ds) (hg : ∀ d, d ∈ ds → sm m (g d) = true) : PL m k (ds.map g) := ⟨by rw [List.length_map]; exact h.1, fun x hx => by
  obtain ⟨d, hd, rfl⟩ := List.mem_map.mp hx
  exact hg d hd⟩
/-! small data, made by expressions that change nothing -/
section
variable {e : En} {d : D} {i n k j : Nat} {m m2 : Mo Vx} {ms : Mo (List Vx)} {ds : List D}
def SmD (n : Nat) (m : Mo Vx) (e : En) : Prop := ∃ d, EvD m e d ∧ sm n d = true
def SmL (n k : Nat) (ms : Mo (List Vx)) (e : En) : Prop := ∃ ds, EvL ms e ds ∧ PL n k ds
def SmT (n k : Nat) (m : Mo Vx) (e : En) : Prop := ∃ ds, EvD m e (.tuple ds) ∧ PL n k ds
theorem sl_nil : SmL n 0 mNil e := ⟨[], evs_nil, PL.nil⟩
theorem sl_cons (h : SmD n m e) (hs : SmL n k ms e) : SmL n (k + 1) (mCons m ms) e :=
  let ⟨_, q1, q2⟩ := h
  let ⟨_, q3, q4⟩ := hs
  ⟨_, evs_cons q1 q3, PL.cons q2 q4⟩
theorem sd_c (h : sm n d = true) : SmD n (mC d) e := ⟨_, ev_c.toD, h⟩
theorem sd_var (h : e[i]? = some (.fz d)) (h2 : sm n d = true) : SmD n (mVar i) e := ⟨_, (ev_var h).toD, h2⟩
theorem SmT.toD (h : SmT n k m e) (hk : k ≤ 1000) : SmD (n + 1) m e :=
  let ⟨_, q1, q2⟩ := h
  ⟨_, q1, q2.t hk⟩
theorem st_tup (h : SmL n k ms e) (hk : k ≤ 1000) : SmT n k (mTup ms) e :=
  let ⟨_, q1, q2⟩ := h
  ⟨_, (ev_tup q1 (by have := q2.1; omega)).toD, q2⟩
theorem st_var (h : e[i]? = some (.fz (.tuple ds))) (h2 : PL n k ds) : SmT n k (mVar i) e := ⟨_, (ev_var h).toD, h2⟩
theorem st_cut {lo hi : Mo (Option Int)} {a b : Option Int} (h : SmT n k m e) (h1 : EvP lo e a) (h2 : EvP hi e b) : SmT n k (mSl dSl m lo hi) e :=
  let ⟨_, q1, q2⟩ := h
  ⟨_, (ev_slT q1 h1 h2).toD, q2.cut⟩
theorem st_add (h : SmT n k m e) (h2 : SmT n j m2 e) (hk : k + j ≤ 1000) : SmT n (k + j) (mOp dAdd m m2) e :=
  let ⟨_, q1, q2⟩ := h
  let ⟨_, q3, q4⟩ := h2
  ⟨_, (ev_addT q1 q3 (by have := q2.1; have := q4.1; omega)).toD, q2.app q4⟩
theorem st_mul {z : Int} (h : SmT n k m e) (h2 : EvD m2 e (.int z)) (h3 : 2 ≤ z) (h4 : z ≤ 1000) (hk : k ≤ 1000) : SmT n (z.toNat * k) (mOp dMul m m2) e :=
  let ⟨_, q1, q2⟩ := h
  ⟨_, (ev_mulT q1 h2 h3 h4 (by have := q2.1; omega)).toD, q2.rep _⟩
theorem st_mul2 (h : SmT n k m e) (hk : k ≤ 1000) : SmT n (2 * k) (mOp dMul m (mC (.int 2))) e := st_mul h ev_c.toD (by decide) (by decide) hk
theorem st_rev (h : SmT n k m e) : SmT n k (mUn dRev m) e :=
  let ⟨_, q1, q2⟩ := h
  ⟨_, (ev_unV q1 dRev_t).toD, q2.rev⟩
theorem sd_list (h : SmT n k m e) (hk : k ≤ 1000) : SmD (n + 1) (mCb dList (mCons m mNil)) e :=
  let ⟨_, q1, q2⟩ := h
  ⟨_, (ev_cbN (evs_cons q1 evs_nil) dList_t).toD, q2.l hk⟩
theorem sd_lst (h : SmL n k ms e) (hk : k ≤ 1000) : SmD (n + 1) (mLst ms) e :=
  let ⟨_, q1, q2⟩ := h
  ⟨_, (ev_lst q1 (by have := q2.1; omega)).toD, q2.l hk⟩
/-- a list display set; a list display added to an own list -/
theorem ws_lst {Q : Ed} (h : SmL n k ms e) (hk : k ≤ 1000) (q : ∀ ds, PL n k ds → ∃ e1, setSl i (.ow (.list ds)) e = some e1 ∧ Q.nx e1) : wS (sSet i (mLst ms)) e Q :=
  let ⟨ds, q1, q2⟩ := h
  let ⟨_, q3, q4⟩ := q ds q2
  ws_setN (ev_lst q1 (by have := q2.1; omega)) q3 q4
theorem ws_more {Q : Ed} (ho : e[i]? = some (.ow (.list ds))) (hd : PL n j ds) (h : SmL n k ms e) (hk : j + k ≤ 1000) (q : ∀ ds, PL n (j + k) ds → ∃ e1, setSl i (.ow (.list ds)) e = some e1 ∧ Q.nx e1) : wS (sSet i (mOp dAdd (mVar i) (mLst ms))) e Q :=
  let ⟨xs, q1, q2⟩ := h
  let ⟨_, q3, q4⟩ := q _ (hd.app q2)
  ws_setN (ev_addL (ev_ow ho) (ev_lst q1 (by have := q2.1; omega)).toD.rd (by have := q2.1; have := hd.1; omega)) q3 q4
end
/-! tests, choices, ranges, cuts -/
section
variable {e : En} {d : D} {i n k j : Nat} {m m2 ma mb : Mo Vx} {t : Mo Bool}
def EvB (t : Mo Bool) (e : En) (b : Bool) : Prop := wM t e fun c e1 => e1 = e ∧ c = b
theorem eb_tst {a : Bool} (h : EvD m e (.bool a)) : EvB (mTst m) e a := by
  unfold EvB
  rw [w_tst]
  refine h.mono ?_
  rintro x e1 ⟨rfl, q1, _⟩
  rw [q1]
  exact ⟨rfl, rfl⟩
theorem eb_cmp {f : D → D → Option Bool} {a b : D} {c : Bool} (ha : EvD ma e a) (hb : EvD mb e b) (h : f a b = some c) : EvB (mTst (mOp (opB f) ma mb)) e c :=
  eb_tst (ev_opV ha hb (opB_some h)).toD
theorem eb_ne0 {ds : List D} (h : EvD m e (.tuple ds)) (hs : sm 1 (.tuple ds) = true) : EvB (mTst (mOp (opB dNe) m (mTup mNil))) e (!ds.isEmpty) :=
  eb_cmp h (ev_tup evs_nil (by simp)).toD (by rw [dNe_sm hs (show sm 1 (.tuple []) = true from rfl) (by omega), eqv_t, eqv_nil])
theorem ev_ifT (h : EvB t e true) (ha : EvD ma e d) : EvD (mIf t ma mb) e d := by
  unfold EvD
  rw [w_if]
  refine h.mono ?_
  rintro c e1 ⟨rfl, rfl⟩
  rw [if_pos rfl]
  exact ha
theorem ev_ifF (h : EvB t e false) (ha : EvD mb e d) : EvD (mIf t ma mb) e d := by
  unfold EvD
  rw [w_if]
  refine h.mono ?_
  rintro c e1 ⟨rfl, rfl⟩
  rw [if_neg (by simp)]
  exact ha
theorem w_rngC {z : Int} {Q : List D → En → Prop} (hz : z = n) (h : n < 2 ^ 62) : wM (mRng1 (mCons (mC (.int z)) mNil)) e Q = Q (rngD 0 n) e := by
  have h1 := itR1_nat h
  rw [← hz] at h1
  unfold mRng1
  rw [w_itA, w_cons, w_c, w_nil, ds_cons, d_v, ds_nil]
  show wIt (itR1 [.int z]) e Q = _
  rw [h1, wIt_some]
theorem cut_to {ds : List D} {z : Int} (h : 0 ≤ z) (h2 : z ≤ ds.length) : Fw.cutD ds none (some z) = ds.take z.toNat := by
  unfold Fw.cutD
  show (ds.drop 0).take ((if z < 0 then (z + (ds.length : Int)).toNat else min z.toNat ds.length) - 0) = _
  rw [if_neg (by omega), List.drop_zero, Nat.sub_zero, Nat.min_eq_left (by omega)]
theorem cut_from {ds : List D} {z : Int} (h : 0 ≤ z) (h2 : z ≤ ds.length) : Fw.cutD ds (some z) none = ds.drop z.toNat := by
  unfold Fw.cutD
  show (ds.drop (if z < 0 then (z + (ds.length : Int)).toNat else min z.toNat ds.length)).take (ds.length - (if z < 0 then (z + (ds.length : Int)).toNat else min z.toNat ds.length)) = _
  rw [if_neg (by omega), Nat.min_eq_left (by omega)]
  exact List.take_of_length_le (by rw [List.length_drop]; omega)
theorem eqvAll_len : ∀ {as bs : List D}, PyData.eqvAll as bs = true → as.length = bs.length
  | [], [], _ => rfl
  | [], _ :: _, h => by unfold PyData.eqvAll at h; cases h
  | _ :: _, [], h => by unfold PyData.eqvAll at h; cases h
  | a :: as, b :: bs, h => by
    rw [eqvAll_c, Bool.and_eq_true] at h
    rw [List.length_cons, List.length_cons, eqvAll_len h.2]
end
/-! calls of own defs with values alone -/
section
variable {e : En} {d d2 z : D} {m m2 : Mo Vx} {f : Fn}
theorem backs_1 : backs e [.v d] [.un] = e := by
  rw [backs_e]
  apply List.ext_getElem
  · simp
  · intro i h1 h2
    simp
theorem backs_2 : backs e [.v d, .v d2] [.un, .un] = e := by
  rw [backs_e]
  apply List.ext_getElem
  · simp
  · intro i h1 h2
    simp
theorem ev_call1 (h : EvD m e d) (hf : wF f [.fz d] fun x o => x = .v z ∧ o = [.un]) : EvV (mCall [] f (mCons m mNil)) e z := by
  unfold EvV
  rw [w_call, w_cons]
  refine h.mono ?_
  rintro x e1 ⟨rfl, q1, q2⟩
  rw [w_nil, w_prep_more, w_prep1_f]
  refine q2 _ ?_
  rw [w_prep_nil]
  show wArg f [.v d] (some [.fz d]) _ _
  rw [wArg_some]
  refine ⟨rfl, hf.mono ?_⟩
  rintro x o ⟨rfl, rfl⟩
  exact ⟨rfl, backs_1, rfl⟩
theorem ev_call1s {e2 : En} (h : wM m e fun x e1 => e1 = e2 ∧ x = .v d) (hf : wF f [.fz d] fun x o => x = .v z ∧ o = [.un]) : wM (mCall [] f (mCons m mNil)) e fun x e1 => e1 = e2 ∧ x = .v z := by
  rw [w_call, w_cons]
  refine h.mono ?_
  rintro x e1 ⟨rfl, rfl⟩
  rw [w_nil, w_prep_more, w_prep1_f, w_val_v, w_prep_nil]
  show wArg f [.v d] (some [.fz d]) _ _
  rw [wArg_some]
  refine ⟨rfl, hf.mono ?_⟩
  rintro x o ⟨rfl, rfl⟩
  exact ⟨rfl, backs_1, rfl⟩
theorem ev_call2 (h : EvD m e d) (h2 : EvD m2 e d2) (hf : wF f [.fz d, .fz d2] fun x o => x = .v z ∧ o = [.un, .un]) : EvV (mCall [] f (mCons m (mCons m2 mNil))) e z := by
  unfold EvV
  rw [w_call, w_cons]
  refine h.mono ?_
  rintro x e1 ⟨rfl, q1, q2⟩
  rw [w_cons]
  refine h2.mono ?_
  rintro y e2 ⟨rfl, q3, q4⟩
  rw [w_nil, w_prep_more, w_prep1_f]
  refine q2 _ ?_
  rw [w_prep_more, w_prep1_f]
  refine q4 _ ?_
  rw [w_prep_nil]
  show wArg f [.v d, .v d2] (some [.fz d, .fz d2]) _ _
  rw [wArg_some]
  refine ⟨rfl, hf.mono ?_⟩
  rintro x o ⟨rfl, rfl⟩
  exact ⟨rfl, backs_2, rfl⟩
theorem ws_if {t : Mo Bool} {b : Bool} {s1 s2 : So} {Q : Ed} (h : EvB t e b) (q : if b = true then wS s1 e Q else wS s2 e Q) : wS (sIf t s1 s2) e Q := by
  rw [w_ifS]
  refine h.mono ?_
  rintro c e1 ⟨rfl, rfl⟩
  exact q
theorem eb_or {t u : Mo Bool} {a b : Bool} (h : EvB t e a) (h2 : EvB u e b) : EvB (mOr t u) e (a || b) := by
  unfold EvB
  rw [w_or]
  refine h.mono ?_
  rintro c e1 ⟨rfl, rfl⟩
  cases c with
  | true => exact ⟨rfl, rfl⟩
  | false =>
    rw [if_neg (by simp)]
    exact h2
theorem eb_not {t : Mo Bool} {a : Bool} (h : EvB t e a) : EvB (mNot t) e (!a) := by
  unfold EvB
  rw [w_not]
  refine h.mono ?_
  rintro c e1 ⟨rfl, rfl⟩
  exact ⟨rfl, rfl⟩
theorem ws_ret {m : Mo Vx} {Q : Ed} (h : EvV m e z) (q : Q.rt (.v z) e) : wS (sRet m) e Q := by
  rw [w_retS]
  refine h.mono ?_
  rintro x e1 ⟨rfl, rfl⟩
  rw [wRet_v]
  exact q
end
end Fw
set_option Elab.async false
set_option linter.all false
set_option maxRecDepth 100000
set_option maxHeartbeats 1000000
/-! Fw29: dicts: written ones of the module (text keys), d[k] of an own dict, dict(list of pairs). -/
namespace Fw
open PySem PySem.Spec PyProof.Rows L2
/-! ### a written dict with text keys, its values integers or texts -/
abbrev Tb : Type := List (Str × Key)
def tbGet (t : Tb) (z : Str) : Option Key := (t.find? fun q => decide (q.1 = z)).map (·.2)
def TbOk (K : Kx) (a : Addr) (t : Tb) : Prop := (∃ es n, KDict K.K K.w a es n) ∧ ∀ z, match tbGet t z with
  | some v => ∃ u, PySem.W.nsIn K.K a z = some (some u) ∧ RelV (kV v) u
  | none => PySem.W.nsIn K.K a z = some none
def GvT (c : Ct) (x : Str) (t : Tb) : Prop := ∃ a, c.mg x = some (.ref a) ∧ TbOk c.K a t
theorem TbOk.hit {K : Kx} {a : Addr} {t : Tb} {z : Str} {v : Key} (h : TbOk K a t) (e : tbGet t z = some v) : ∃ u, PySem.W.nsIn K.K a z = some (some u) ∧ RelV (kV v) u := by
  have := h.2 z
  rw [e] at this
  exact this
theorem TbOk.any {K : Kx} {a : Addr} {t : Tb} (z : Str) (h : TbOk K a t) : ∃ r, PySem.W.nsIn K.K a z = some r ∧ r.isSome = (tbGet t z).isSome := by
  have := h.2 z
  cases e : tbGet t z with
  | none =>
    rw [e] at this
    exact ⟨_, this, rfl⟩
  | some v =>
    rw [e] at this
    obtain ⟨u, h1, _⟩ := this
    exact ⟨_, h1, rfl⟩
def dInT (t : Tb) (ng : Bool) : D → Option Vx
  | .str z => some (.v (.bool (if ng then !(tbGet t z).isSome else (tbGet t z).isSome)))
  | _ => none
def dIxT (t : Tb) : D → Option Vx
  | .str z => (tbGet t z).map fun v => .v (kD v)
  | _ => none
def rInT (K : PySem.W.Frag) (a : Addr) (ng : Bool) : V → Hp → VK → Prop := fun x H Q => ∃ (z : Str) (r : Option Value), x = .str z ∧ PySem.W.nsIn K a z = some r ∧ Q (.bl (if ng then !r.isSome else r.isSome)) H
def rIxTb (K : PySem.W.Frag) (w : World) (a : Addr) : V → Hp → VK → Prop := fun x H Q => ∃ (z : Str) (v : V), x = .str z ∧ KDct K w a z v ∧ Q v H
section
variable {K : Kx} {mg : Str → Option Value} {P : Pr} {G H : Hp} {a : Addr} {t : Tb}
theorem rp_k {k : Key} : Rp K mg G (kV k) (kD k) := by
  cases k with
  | inl i => exact .int i
  | inr x => exact .str x
theorem u_inT {ng : Bool} (h : TbOk K a t) : UnI K mg (rInT K.K a ng) (dInT t ng) := by
  intro P G H e σ x dx z Q rl ro q k
  unfold dInT at q
  split at q
  · rename_i y
    cases q
    cases ro
    obtain ⟨r, h1, h2⟩ := h.any y
    refine ⟨y, r, rfl, h1, ?_⟩
    rw [h2]
    exact k G H _ rl (Sub.refl _) (.bl _)
  · cases q
theorem u_ixT (h : TbOk K a t) : UnI K mg (rIxTb K.K K.w a) (dIxT t) := by
  intro P G H e σ x dx z Q rl ro q k
  unfold dIxT at q
  split at q
  · rename_i y
    obtain ⟨v, hv, rfl⟩ := Option.map_eq_some_iff.mp q
    cases ro
    obtain ⟨u, h1, h2⟩ := h.hit hv
    obtain ⟨⟨es, n, D⟩, _⟩ := h
    exact ⟨y, kV v, rfl, ⟨es, n, u, D.at_, D.lit, h1, h2⟩, k G H _ rl (Sub.refl _) rp_k⟩
  · cases q
end
section
variable {X : Cx} {a : Addr}
theorem op_inT {es : Array DictEntry} {n : Nat} (D : KDict X.K X.w a es n) : OpR X (compareOp .In) (fun x y H Q => y = .ref a ∧ rInT X.K a false x H Q) := by
  intro pins s σ H x y v u Q I rx ry h
  obtain ⟨ey, z, r, ex, e, q⟩ := h
  exact op_in_kd D pins s σ H x y v u Q I rx ry ⟨z, r, ex, ey, e, q⟩
theorem op_ninT {es : Array DictEntry} {n : Nat} (D : KDict X.K X.w a es n) : OpR X (compareOp .NotIn) (fun x y H Q => y = .ref a ∧ rInT X.K a true x H Q) := by
  intro pins s σ H x y v u Q I rx ry h
  obtain ⟨ey, z, r, ex, e, q⟩ := h
  exact op_notIn_kd D pins s σ H x y v u Q I rx ry ⟨z, r, ex, ey, e, q⟩
theorem ix_tb : IxR X (fun x y H Q => x = .ref a ∧ rIxTb X.K X.w a y H Q) := by
  intro value slice pins s σ H x y v u Q I rx ry h hs
  obtain ⟨ex, z, v0, ey, e, q⟩ := h
  exact ix_kdict value slice pins s σ H x y v u Q I rx ry ⟨a, z, v0, ex, ey, e, q⟩ hs
end
section
variable {c : Ct} {W : WX} {N : List Str} {sc : Sx} {k : Nat} {pos pos' p : Pos} {e a b : Expr} {m ma mb : Mo Vx} {x : Str} {t : Tb}
theorem UnI.tt {K : Kx} {mg : Str → Option Value} {r : V → Hp → VK → Prop} {f : D → Option Vx} {v : V} (h : UnI K mg r f) : UnI K mg (fun x H Q => v = v ∧ r x H Q) f := fun P G H e σ x dx z Q rl ro q k => ⟨rfl, h P G H e σ x dx z Q rl ro q k⟩
theorem j_inT (g : GvT c x t) (ha : JE c W N sc k e m) (hg : sc.names.lookup x = some .globalImplicit := by rfl) (hd : (x == ("__debug__" : Str)) = false := by decide)
    (hm : behindInMarks .In (.Name x p) = false := by first | exact nomark _ (by decide) (by decide) | with_unfolding_all rfl) : JE c W N sc k (.Compare e [.In] [.Name x p] pos) (mUn (dInT t false) m) := by
  obtain ⟨ad, h1, h2⟩ := g
  obtain ⟨ta, g1, g2⟩ := ha
  obtain ⟨⟨es, n, D⟩, _⟩ := id h2
  refine ⟨tOp (fun x y H Q => y = .ref ad ∧ rInT c.K.K ad false x H Q) ta (tC (.ref ad)), fun X h => ?_, show ImE c.K c.mg W (tUn (fun x H Q => V.ref ad = V.ref ad ∧ rInT c.K.K ad false x H Q) ta) _ from i_un (u_inT h2).tt g2⟩
  have := pe_cmpR (pos := pos) (op_inT (X := X) (by rw [h.kk, h.w]; exact D)) (g1 X h) (pe_glob (v := .ref ad) (u := .ref ad) (gl_of h hg) (by rw [h.mg]; exact h1) rfl hd) hm
  rw [h.kk] at this
  exact this
theorem j_ninT (g : GvT c x t) (ha : JE c W N sc k e m) (hg : sc.names.lookup x = some .globalImplicit := by rfl) (hd : (x == ("__debug__" : Str)) = false := by decide)
    (hm : behindInMarks .NotIn (.Name x p) = false := by first | exact nomark _ (by decide) (by decide) | with_unfolding_all rfl) : JE c W N sc k (.Compare e [.NotIn] [.Name x p] pos) (mUn (dInT t true) m) := by
  obtain ⟨ad, h1, h2⟩ := g
  obtain ⟨ta, g1, g2⟩ := ha
  obtain ⟨⟨es, n, D⟩, _⟩ := id h2
  refine ⟨tOp (fun x y H Q => y = .ref ad ∧ rInT c.K.K ad true x H Q) ta (tC (.ref ad)), fun X h => ?_, show ImE c.K c.mg W (tUn (fun x H Q => V.ref ad = V.ref ad ∧ rInT c.K.K ad true x H Q) ta) _ from i_un (u_inT h2).tt g2⟩
  have := pe_cmpR (pos := pos) (op_ninT (X := X) (by rw [h.kk, h.w]; exact D)) (g1 X h) (pe_glob (v := .ref ad) (u := .ref ad) (gl_of h hg) (by rw [h.mg]; exact h1) rfl hd) hm
  rw [h.kk] at this
  exact this
theorem jt_inT (g : GvT c x t) (ha : JE c W N sc k e m) (hg : sc.names.lookup x = some .globalImplicit := by rfl) (hd : (x == ("__debug__" : Str)) = false := by decide)
    (hm : behindInMarks .In (.Name x p) = false := by first | exact nomark _ (by decide) (by decide) | with_unfolding_all rfl) : JT c W N sc k (.Compare e [.In] [.Name x p] pos) (mTst (mUn (dInT t false) m)) := by
  obtain ⟨ad, h1, h2⟩ := g
  obtain ⟨ta, g1, g2⟩ := ha
  obtain ⟨⟨es, n, D⟩, _⟩ := id h2
  refine ⟨tTest (tOp (fun x y H Q => y = .ref ad ∧ rInT c.K.K ad false x H Q) ta (tC (.ref ad))), fun X h => ?_, i_tst (show ImE c.K c.mg W (tUn (fun x H Q => V.ref ad = V.ref ad ∧ rInT c.K.K ad false x H Q) ta) _ from i_un (u_inT h2).tt g2)⟩
  have := pt_cmpR (pos := pos) (op_inT (X := X) (by rw [h.kk, h.w]; exact D)) (g1 X h) (pe_glob (v := .ref ad) (u := .ref ad) (gl_of h hg) (by rw [h.mg]; exact h1) rfl hd) hm
  rw [h.kk] at this
  exact this
theorem jt_ninT (g : GvT c x t) (ha : JE c W N sc k e m) (hg : sc.names.lookup x = some .globalImplicit := by rfl) (hd : (x == ("__debug__" : Str)) = false := by decide)
    (hm : behindInMarks .NotIn (.Name x p) = false := by first | exact nomark _ (by decide) (by decide) | with_unfolding_all rfl) : JT c W N sc k (.Compare e [.NotIn] [.Name x p] pos) (mTst (mUn (dInT t true) m)) := by
  obtain ⟨ad, h1, h2⟩ := g
  obtain ⟨ta, g1, g2⟩ := ha
  obtain ⟨⟨es, n, D⟩, _⟩ := id h2
  refine ⟨tTest (tOp (fun x y H Q => y = .ref ad ∧ rInT c.K.K ad true x H Q) ta (tC (.ref ad))), fun X h => ?_, i_tst (show ImE c.K c.mg W (tUn (fun x H Q => V.ref ad = V.ref ad ∧ rInT c.K.K ad true x H Q) ta) _ from i_un (u_inT h2).tt g2)⟩
  have := pt_cmpR (pos := pos) (op_ninT (X := X) (by rw [h.kk, h.w]; exact D)) (g1 X h) (pe_glob (v := .ref ad) (u := .ref ad) (gl_of h hg) (by rw [h.mg]; exact h1) rfl hd) hm
  rw [h.kk] at this
  exact this
/-- D[e] of a written dict -/
theorem j_ixT (g : GvT c x t) (ha : JE c W N sc k e m) (hg : sc.names.lookup x = some .globalImplicit := by rfl) (hd : (x == ("__debug__" : Str)) = false := by decide) (hs : PlainIx e := by intro _ _; rfl) : JE c W N sc k (.Subscript (.Name x p) e pos) (mUn (dIxT t) m) := by
  obtain ⟨ad, h1, h2⟩ := g
  obtain ⟨ta, g1, g2⟩ := ha
  refine ⟨tOp (fun x y H Q => x = .ref ad ∧ rIxTb c.K.K c.K.w ad y H Q) (tC (.ref ad)) ta, fun X h => ?_, show ImE c.K c.mg W (tUn (fun x H Q => V.ref ad = V.ref ad ∧ rIxTb c.K.K c.K.w ad x H Q) ta) _ from i_un (u_ixT h2).tt g2⟩
  have := pe_ix (X := X) (pos := pos) (ix_tb (a := ad)) (pe_glob (v := .ref ad) (u := .ref ad) (pos := p) (gl_of h hg) (by rw [h.mg]; exact h1) rfl hd) (g1 X h) hs
  rw [h.kk, h.w] at this
  exact this
end
/-! ### d[k] of an own dict -/
section
variable {K : Kx} {mg : Str → Option Value}
def rIxKk : R2 := fun x y H Q => ∃ a kvs k v, x = .ref a ∧ y = kV k ∧ Rd H a (.dK kvs) ∧ valV kvs k = some v ∧ Q v H
theorem ix_key {X : Cx} (hu : X.A.units + 66 < cLine) : IxR X rIxKk := by
  intro value slice pins s σ H x y v u Q I rx ry h hs
  obtain ⟨a, kvs, k, w, rfl, rfl, hd, hv, q⟩ := h
  cases rx
  have g : DGet H a (kV k) (some w) := .inl ⟨kvs, k, hd, rfl, hv.symm⟩
  exact tail_any (dict_typeIs I g) slot_dict_getitem.lookup (d_getItem (by omega) I g ry fun w2 s2 I2 r2 => ⟨w, H, I2, r2, q⟩) hs
theorem o_ixK : OpI K mg rIxKk dIxK := by
  intro P G H e σ x y a b z Q rl ra rb h k
  unfold dIxK at h
  split at h
  · split at h
    · rename_i ps kd hk
      obtain ⟨d, hd, rfl⟩ := Option.map_eq_some_iff.mp h
      obtain ⟨key, hkey⟩ := Option.isSome_iff_exists.mp hk
      have ek := keyK_some hkey
      subst ek
      cases ra with
      | dK e1 l1 =>
        rcases Rk.look key l1 with ⟨_, q2⟩ | ⟨v, d2, q1, q2, q3⟩
        · rw [hd] at q2
          cases q2
        · rw [hd] at q2
          cases q2
          refine ⟨_, _, key, v, rfl, ?_, e1, q1, k G H v rl (Sub.refl _) q3⟩
          cases key <;> cases rb <;> rfl
    · cases h
  · cases h
end
section
variable {c : Ct} {W : WX} {N : List Str} {sc : Sx} {k : Nat} {pos : Pos} {a b : Expr} {ma mb : Mo Vx}
theorem j_ixK (ha : JE c W N sc k a ma) (hb : JE c W N sc k b mb) (hs : PlainIx b := by intro _ _; rfl) : JE c W N sc k (.Subscript a b pos) (mOp dIxK ma mb) := by
  obtain ⟨ta, h1, h2⟩ := ha
  obtain ⟨tb, h3, h4⟩ := hb
  exact ⟨tOp rIxKk ta tb, fun X h => pe_ix (X := X) (pos := pos) (ix_key h.un) (h1 X h) (h3 X h) hs, i_op o_ixK h2 h4⟩
end
end Fw
set_option Elab.async false
set_option linter.all false
set_option maxRecDepth 100000
set_option maxHeartbeats 1000000
/-! Fw30: len(set(t)), dict(list of pairs). -/
namespace Fw
open PySem PySem.Spec PyProof.Rows L2
open PySem.W (AllAlike Sortable dataLe alike)
/-! ### len(set(e)) -/
def dLenSet : D → Option Vx
  | .tuple ds => if setOk ds = true then some (.v (.int (dedupD ds).length)) else none
  | .list ds => if setOk ds = true then some (.v (.int (dedupD ds).length)) else none
  | _ => none
def rLSet (K : PySem.W.Frag) : V → Hp → VK → Prop := fun v H Q => ∃ p ks, v = V.ref p ∧ (SqL K H p (ks.map kV) ∨ SqT K H p (ks.map kV)) ∧ ks.length ≤ 1000 ∧ Q (.int (dedupK ks).length) H
section
variable {X : Cx}
theorem pe_lenSet {e : Expr} {ta : TE} {p p2 pos pos2 : Pos} (hc : X.calm = true) (hg : Gl X "len") (hm : X.mg "len" = none) (hg2 : Gl X "set") (hm2 : X.mg "set" = none) (ha : PE X e ta)
    (he : starEach [e] X.env = (false, eval e X.env) :: starEach [] X.env) :
    PE X (.Call (.Name "len" p) [.Call (.Name "set" p2) [e] [] pos2] [] pos) (tUn (rLSet X.K) ta) := by
  refine ⟨fun pins s σ H Q I h => ?_⟩
  refine wpAny_Call_Name_kw (ld_blt I hg hm (show bootBuiltins "len" = some (.builtin "len") by rfl) ?_)
  refine PyProof.Rows.callWith_builtin1 ?_ rfl rfl
  refine Calls.spliced_cons (Q := fun us s1 => wpAny (model X.prog X.w) X.A (call (.builtin "len") us) (EP X pins σ Q) X.xe s1) ?_
  refine wpAny_Call_Name_kw (ld_blt I hg2 hm2 PyProof.Rows.boot_set ?_)
  refine PyProof.Rows.callWith_type1 ?_ he rfl
  rw [he]
  refine Calls.spliced_cons (thn (ha.run pins s σ H _ I h) fun u s1 ⟨x, H1, I1, r1, q1⟩ => Calls.spliced_nil ?_)
  obtain ⟨p0, ks, rfl, hq, hl, q⟩ := q1
  cases r1
  have hd := I1.ok.hd hc
  suffices hs : ∀ (h2 : Heap) (tk : Nat), SetV X.w h2 s1.heap.objs.size (dedupK ks) → (∀ b o, s1.heap.get? b = some o → h2.get? b = some o) → wpAny (model X.prog X.w) X.A (spliced []) (fun vs s2 => wpAny (model X.prog X.w) X.A (call (.builtin "len") (Value.ref s1.heap.objs.size :: vs)) (EP X pins σ Q) X.xe s2) X.xe { s1 with heap := h2, toks := tk } by
    rcases hq with hq | hq
    · obtain ⟨its, rv, pt, hz⟩ := I1.list hq
      have hsz : its.toArray.size = ks.length := by
        have := rv.length
        rw [List.length_map] at this
        simpa using this.symm
      exact call_setL ks hd (show s1.heap.IsList p0 its.toArray from pt.isList) hsz (fun i v hv => keys_vals rv rfl i v (by simpa using hv)) (by unfold scanBound; omega) hs
    · obtain ⟨its, rv, pt, hz⟩ := I1.tuple hq
      have hsz : its.toArray.size = ks.length := by
        have := rv.length
        rw [List.length_map] at this
        simpa using this.symm
      exact call_setT ks hd (show s1.heap.IsTuple p0 its.toArray from pt) hsz (fun i v hv => keys_vals rv rfl i v (by simpa using hv)) (by unfold scanBound; omega) hs
  intro h2 tk R1 k
  refine Calls.spliced_nil ?_
  obtain ⟨o, es, ep, t, ho, hex, hdt, g, pk, nd, hb, hf, hr, hl2⟩ := R1
  have hsz : es.size = (dedupK ks).length := by
    have := pk.length_eq
    simpa using this
  refine call_len_set (s := { s1 with heap := h2, toks := tk }) ho hex hdt hf (by have : scanBound = 4096 := rfl; omega) ?_
  refine ⟨.int (dedupK ks).length, H1, ?_, ⟨tk + 1, by rw [hsz]⟩, q⟩
  exact (I1.kept (t' := tk + 1 + 1) k)
end
section
variable {K : Kx} {mg : Str → Option Value} {W : WX} {G H : Hp}
theorem keys_some {ds : List D} (h : setOk ds = true) : ∃ ks, keysD ds = some ks ∧ ds.length ≤ 1000 := by
  unfold setOk at h
  rw [Bool.and_eq_true, decide_eq_true_eq] at h
  obtain ⟨ks, hks⟩ := Option.isSome_iff_exists.mp h.1
  exact ⟨ks, hks, h.2⟩
theorem u_lset : UnI K mg (rLSet K.K) dLenSet := by
  intro P G H e σ x dx z Q rl ro h k
  unfold dLenSet at h
  split at h
  · split at h
    · rename_i c
      cases h
      obtain ⟨ks, hks, c3⟩ := keys_some c
      cases ro with
      | tup e1 l1 =>
        obtain ⟨rfl, rfl⟩ := Rl.keys2 l1 hks
        rw [dedupD_keys, List.length_map] at k
        exact ⟨_, ks, rfl, .inr (rl.sub.q e1), by simpa using c3, k G H _ rl (Sub.refl _) (.int _)⟩
    · cases h
  · split at h
    · rename_i c
      cases h
      obtain ⟨ks, hks, c3⟩ := keys_some c
      cases ro with
      | lst e1 l1 =>
        obtain ⟨rfl, rfl⟩ := Rl.keys2 l1 hks
        rw [dedupD_keys, List.length_map] at k
        exact ⟨_, ks, rfl, .inl (SqL.of e1), by simpa using c3, k G H _ rl (Sub.refl _) (.int _)⟩
    · cases h
  · cases h
end
section
variable {c : Ct} {W : WX} {N : List Str} {sc : Sx} {k : Nat} {pos p : Pos} {a : Expr} {ma : Mo Vx} {mas : Mo (List Vx)}
theorem j_lenSet {p2 pos2 : Pos} (h1 : c.mg ("len" : Str) = none) (h2 : c.mg ("set" : Str) = none) (ha : JE c W N sc k a ma) (hg : sc.names.lookup ("len" : Str) = some .globalImplicit := by rfl) (hg2 : sc.names.lookup ("set" : Str) = some .globalImplicit := by rfl)
    (he : ∀ env, starEach [a] env = (false, eval a env) :: starEach [] env := by intro _; rfl) :
    JE c W N sc k (.Call (.Name "len" p) [.Call (.Name "set" p2) [a] [] pos2] [] pos) (mUn dLenSet ma) := by
  obtain ⟨ta, g1, g2⟩ := ha
  exact ⟨_, fun X h => by have := pe_lenSet (X := X) (p := p) (p2 := p2) (pos := pos) (pos2 := pos2) h.calm (gl_of h hg) (by rw [h.mg]; exact h1) (gl_of h hg2) (by rw [h.mg]; exact h2) (g1 X h) (he _); rw [h.kk] at this; exact this, i_un u_lset g2⟩
end
/-! ### dict(list of pairs) -/
def putD2 (kds : List (Key × D)) (k : Key) (d : D) : List (Key × D) := if (kds.any fun q => decide (q.1 = k)) = true then kds.map (fun q => if q.1 = k then (q.1, d) else q) else kds ++ [(k, d)]
def mergeD2 (acc more : List (Key × D)) : List (Key × D) := more.foldl (fun acc q => putD2 acc q.1 q.2) acc
def pairsD : List D → Option (List (Key × D))
  | [] => some []
  | .tuple [k, d] :: r => (match keyK k, pairsD r with
    | some k, some q => some ((k, d) :: q)
    | _, _ => none)
  | _ => none
def kdD (kds : List (Key × D)) : List (D × D) := kds.map fun q => (kD q.1, q.2)
def dDict : List D → Option Vx
  | [.list ds] => (pairsD ds).map fun q => .nw (dicD (kdD (mergeD2 [] q)))
  | _ => none
section
variable {K : Kx} {mg : Str → Option Value} {G H : Hp}
def Kd (K : Kx) (mg : Str → Option Value) (G : Hp) (a : Key × V) (b : Key × D) : Prop := a.1 = b.1 ∧ Rp K mg G a.2 b.2
theorem kd_rk : ∀ {kvs : List (Key × V)} {kds : List (Key × D)}, Paired (Kd K mg G) kvs kds → Rk K mg G kvs (kdD kds)
  | _, _, .nil => .nil
  | (k, v) :: _, (k2, d) :: _, .cons a b => by
    obtain ⟨h1, h2⟩ := a
    cases h1
    exact .cons h2 (kd_rk b)
theorem kd_any {k : Key} : ∀ {kvs : List (Key × V)} {kds : List (Key × D)}, Paired (Kd K mg G) kvs kds → (kvs.any fun q => decide (q.1 = k)) = kds.any fun q => decide (q.1 = k)
  | _, _, .nil => rfl
  | _, _, .cons a b => by rw [List.any_cons, List.any_cons, kd_any b, a.1]
theorem kd_map {k : Key} {v : V} {d : D} (h : Rp K mg G v d) : ∀ {kvs : List (Key × V)} {kds : List (Key × D)}, Paired (Kd K mg G) kvs kds → Paired (Kd K mg G) (kvs.map fun q => if q.1 = k then (q.1, v) else q) (kds.map fun q => if q.1 = k then (q.1, d) else q)
  | _, _, .nil => .nil
  | (k1, v1) :: _, (k2, d2) :: _, .cons a b => by
    obtain ⟨h1, h2⟩ := a
    have h1' : k1 = k2 := h1
    subst h1'
    refine .cons ?_ (kd_map h b)
    show Kd K mg G (if k1 = k then (k1, v) else (k1, v1)) (if k1 = k then (k1, d) else (k1, d2))
    by_cases q : k1 = k
    · rw [if_pos q, if_pos q]
      exact ⟨rfl, h⟩
    · rw [if_neg q, if_neg q]
      exact ⟨rfl, h2⟩
theorem kd_app {k : Key} {v : V} {d : D} (h : Rp K mg G v d) : ∀ {kvs : List (Key × V)} {kds : List (Key × D)}, Paired (Kd K mg G) kvs kds → Paired (Kd K mg G) (kvs ++ [(k, v)]) (kds ++ [(k, d)])
  | _, _, .nil => .cons ⟨rfl, h⟩ .nil
  | _, _, .cons a b => .cons a (kd_app h b)
theorem kd_put {k : Key} {v : V} {d : D} (h : Rp K mg G v d) {kvs : List (Key × V)} {kds : List (Key × D)} (r : Paired (Kd K mg G) kvs kds) : Paired (Kd K mg G) (putK kvs k v) (putD2 kds k d) := by
  unfold putK putD2
  rw [kd_any r]
  split
  · exact kd_map h r
  · exact kd_app h r
theorem kd_merge : ∀ {mv : List (Key × V)} {md : List (Key × D)} {kvs : List (Key × V)} {kds : List (Key × D)}, Paired (Kd K mg G) mv md → Paired (Kd K mg G) kvs kds → Paired (Kd K mg G) (mergeK kvs mv) (mergeD2 kds md)
  | _, _, _, _, .nil, r => r
  | (k1, v1) :: _, (k2, d2) :: _, _, _, .cons a b, r => by
    obtain ⟨h1, h2⟩ := a
    have h1' : k1 = k2 := h1
    subst h1'
    show Paired (Kd K mg G) (mergeK (putK _ k1 v1) _) (mergeD2 (putD2 _ k1 d2) _)
    exact kd_merge b (kd_put h2 r)
theorem pairs_at (s : Sub G H) : ∀ {xs : List V} {ds : List D} {q : List (Key × D)}, Rl K mg G xs ds → pairsD ds = some q → ∃ (ps : List Addr) (kvs : List (Key × V)), xs = ps.map V.ref ∧ Paired (fun p kv => SqT K.K H p [kV kv.1, kv.2]) ps kvs ∧ Paired (Kd K mg G) kvs q
  | _, [], _, .nil, h => by cases h; exact ⟨[], [], rfl, .nil, .nil⟩
  | _, .tuple [k, d] :: r, _, .cons a b, h => by
    have h' : (match keyK k, pairsD r with
      | some k, some q => some ((k, d) :: q)
      | _, _ => none) = some _ := h
    cases q1 : keyK k with
    | none => rw [q1] at h'; cases h'
    | some key =>
      cases q2 : pairsD r with
      | none => rw [q1, q2] at h'; cases h'
      | some q =>
        rw [q1, q2] at h'
        cases h'
        have ek := keyK_some q1
        subst ek
        obtain ⟨ps, kvs, e1, e2, e3⟩ := pairs_at s b q2
        cases a with
        | tup e4 l4 =>
          cases l4 with
          | cons a1 b1 =>
            cases b1 with
            | cons a2 b2 =>
              cases b2
              rename_i ad v1 v2
              have ev : v1 = kV key := by cases key <;> cases a1 <;> rfl
              subst ev
              exact ⟨ad :: ps, (key, v2) :: kvs, by rw [e1]; rfl, .cons (s.q e4) e2, .cons ⟨rfl, a2⟩ e3⟩
theorem c_dict : CbI K mg (fun xs H Q => ∃ (a : Addr) (ps : List Addr) (kvs : List (Key × V)), xs = [.ref a] ∧ SqL K.K H a (ps.map V.ref) ∧ Paired (fun p kv => SqT K.K H p [kV kv.1, kv.2]) ps kvs ∧
    ∀ p, H p = none → Q (.ref p) (upd H p (.dK (mergeK [] kvs)))) dDict := by
  intro P G H e σ xs ds z Q rl hp h k
  unfold dDict at h
  split at h
  · rename_i l
    obtain ⟨q, hq, rfl⟩ := Option.map_eq_some_iff.mp h
    obtain ⟨v, rfl, r⟩ := Paired.one1 hp
    cases r with
    | lst e1 l1 =>
      obtain ⟨ps, kvs, e2, e3, e4⟩ := pairs_at rl.sub l1 hq
      refine ⟨_, ps, kvs, rfl, e2 ▸ SqL.of e1, e3, fun p hpn => ?_⟩
      obtain ⟨r2, x2⟩ := rl.new (d := dicD (kdD (mergeD2 [] q))) hpn (.dK upd_same (kd_rk (kd_merge e4 .nil)))
      exact k _ _ _ r2 (Sub.refl _) x2
  · cases h
end
section
variable {c : Ct} {W : WX} {N : List Str} {sc : Sx} {k : Nat} {pos p : Pos} {e : Expr} {es : List Expr} {mas : Mo (List Vx)}
theorem j_dict (hm : c.mg ("dict" : Str) = none) (ha : JA c W N sc k (e :: es) mas) (hg : sc.names.lookup ("dict" : Str) = some .globalImplicit := by rfl)
    (he : ∀ env, starEach (e :: es) env = (false, eval e env) :: starEach es env := by intro _; rfl) (hpl : ∀ env, (backTo pos (starEach es env)).any (·.1) = false := by intro _; rfl) :
    JE c W N sc k (.Call (.Name "dict" p) (e :: es) [] pos) (mCb dDict mas) :=
  j_cty (T := "dict") (r := fun c => fun xs H Q => ∃ (a : Addr) (ps : List Addr) (kvs : List (Key × V)), xs = [.ref a] ∧ SqL c.K.K H a (ps.map V.ref) ∧ Paired (fun p kv => SqT c.K.K H p [kV kv.1, kv.2]) ps kvs ∧ ∀ p, H p = none → Q (.ref p) (upd H p (.dK (mergeK [] kvs))))
    (fun X h => by have := call_dictP (X := X) h.calm; rw [h.kk] at this; exact this) c_dict hm ha (hv := by rfl) (hg := hg) (he := he) (hpl := hpl)
end
end Fw
set_option Elab.async false
set_option linter.all false
set_option maxRecDepth 100000
set_option maxHeartbeats 1000000
/-! Fw31: list(range(..)), tuple(range(..)). -/
namespace Fw
open PySem PySem.Spec PyProof.Rows L2
def rgD (a b : Int) : List D := (List.range (b - a).toNat).map fun i => .int (a + (i : Nat))
def rgOk (a b : Int) : Bool := decide (-(2 ^ 62) ≤ a ∧ a < 2 ^ 62 ∧ -(2 ^ 62) ≤ b ∧ b < 2 ^ 62 ∧ (b - a).toNat ≤ 2 ^ 24)
def dLstRg : List D → Option Vx
  | [.int a, .int b] => if rgOk a b = true then some (.nw (.list (rgD a b))) else none
  | [.int b] => if rgOk 0 b = true then some (.nw (.list (rgD 0 b))) else none
  | _ => none
def dTupRg : List D → Option Vx
  | [.int a, .int b] => if rgOk a b = true then some (.v (.tuple (rgD a b))) else none
  | [.int b] => if rgOk 0 b = true then some (.v (.tuple (rgD 0 b))) else none
  | _ => none
/-- the bounds of a range by its arguments -/
def RgA (xs : List V) (a b : Int) : Prop := xs = [.int a, .int b] ∨ (xs = [.int b] ∧ a = 0)
def rRgL : List V → Hp → VK → Prop := fun xs H Q => ∃ a b, RgA xs a b ∧ RgOk a b ∧ ∀ q, H q = none → Q (.ref q) (upd H q (.lst (rgV a b)))
def rRgT : List V → Hp → VK → Prop := fun xs H Q => ∃ a b, RgA xs a b ∧ RgOk a b ∧ NewT H Q (rgV a b)
section
variable {X : Cx} {e : Expr} {es : List Expr} {t : TA}
def PRgA (X : Cx) (e : Expr) (t : TA) : Prop := ∀ (pins : List (Addr × Obj)) (s : Shared) (σ : L2.St) (H : Hp) (Q : Int → Int → Hp → Prop), Inv X pins σ H s → (t σ H fun xs H1 => ∃ a b, RgA xs a b ∧ Q a b H1) →
  wpAny (model X.prog X.w) X.A (eval e X.env) (fun x s2 => ∃ r a b t u v H2, x = .ref r ∧ IsRange s2.heap r a b 1 t u v ∧ Inv X pins σ H2 s2 ∧ Q a b H2) X.xe s
theorem prg_a {p pos : Pos} (hg : Gl X "range") (hm : X.mg "range" = none) (ha : PA X (e :: es) t) (he : starEach (e :: es) X.env = (false, eval e X.env) :: starEach es X.env) (hpl : (backTo pos (starEach es X.env)).any (·.1) = false) : PRgA X (.Call (.Name "range" p) (e :: es) [] pos) t := by
  intro pins s σ H Q I h
  refine Call_ (ld_blt I hg hm PyProof.Rows.boot_range (PyProof.Rows.callWith_type1 (thn (ha.run pos pins s σ H _ I h) fun us s1 ⟨vs, H1, I1, r1, q1⟩ => ?_) he hpl))
  obtain ⟨a, b, hr, q⟩ := q1
  rcases hr with rfl | ⟨rfl, rfl⟩
  · obtain ⟨u, v, rfl, ru, rv⟩ := vals2 r1
    obtain ⟨t1, rfl⟩ := ru
    obtain ⟨t2, rfl⟩ := rv
    exact call_range_2 ⟨_, a, b, _, _, _, H1, rfl, IsRange.new _ _ _ _ _ _ _, I1.kept fun b u e => Heap.get?_push_of_some _ e, q⟩
  · obtain ⟨u, rfl, ru⟩ := vals1 r1
    obtain ⟨t1, rfl⟩ := ru
    exact call_range_1 ⟨_, 0, b, _, _, _, H1, rfl, IsRange.new _ _ _ _ _ _ _, I1.kept fun b u e => Heap.get?_push_of_some _ e, q⟩
theorem pe_rgL {p pos : Pos} {c : Expr} (hc : X.calm = true) (hg : Gl X "list") (hm : X.mg "list" = none) (he : PRgA X c t) (na : starEach [c] X.env = (false, eval c X.env) :: starEach [] X.env) : PE X (.Call (.Name "list" p) [c] [] pos) (tCB rRgL t) := by
  refine ⟨fun pins s σ H Q I h => ?_⟩
  refine Call_ (ld_blt I hg hm boot_list (PyProof.Rows.callWith_type1 (args_cons (thn (he pins s σ H (fun a b H1 => RgOk a b ∧ ∀ q, H1 q = none → Q (.ref q) (upd H1 q (.lst (rgV a b)))) I h) fun x s1 ⟨r, a, b, t, u, v, H1, ex, hr, I1, ok, q⟩ => args_nil ?_) na) na))
  subst ex
  obtain ⟨b1, b2, b3, b4, b5⟩ := ok
  refine call_list_range (n := (b - a).toNat) (I1.ok.hd hc) hr (small_one b1 b2 b3 b4) (rangeSize_nat a b) b5 fun h2 tk acc c2 hk e2 hi => ?_
  refine ⟨.ref s1.heap.objs.size, upd H1 s1.heap.objs.size (.lst (rgV a b)), I1.laid hk (Nat.le_refl _) (show ObjOk X.prog X.w _ _ _ (.lst (rgV a b)) from ⟨?_, acc.toList, c2, vals_rg hi, ?_⟩), rfl, q _ (I1.hok.fresh (Nat.le_refl _))⟩
  · rw [rgV_length, sizeLine_eq]
    omega
  · rw [Array.toArray_toList]
    exact e2
theorem pe_rgT {p pos : Pos} {c : Expr} (hc : X.calm = true) (hg : Gl X "tuple") (hm : X.mg "tuple" = none) (he : PRgA X c t) (na : starEach [c] X.env = (false, eval c X.env) :: starEach [] X.env) : PE X (.Call (.Name "tuple" p) [c] [] pos) (tCB rRgT t) := by
  refine ⟨fun pins s σ H Q I h => ?_⟩
  refine Call_ (ld_blt I hg hm boot_tuple (PyProof.Rows.callWith_type1 (args_cons (thn (he pins s σ H (fun a b H1 => RgOk a b ∧ NewT H1 Q (rgV a b)) I h) fun x s1 ⟨r, a, b, t, u, v, H1, ex, hr, I1, ok, q⟩ => args_nil ?_) na) na))
  subst ex
  obtain ⟨b1, b2, b3, b4, b5⟩ := ok
  refine call_tuple_range (n := (b - a).toNat) (I1.ok.hd hc) hr (small_one b1 b2 b3 b4) (rangeSize_nat a b) b5 fun h2 tk acc hk hi => ?_
  have I2 : Inv X pins σ H1 { s1 with heap := h2, toks := tk } := I1.kept hk
  have hz : (rgV a b).length ≤ sizeLine := by
    rw [rgV_length, sizeLine_eq]
    omega
  have I3 := invTupE I2 (vals_rg hi) hz
  rw [Array.toArray_toList] at I3
  exact ⟨.ref _, _, I3, rfl, q _ _ rfl (I2.hok.fresh (Nat.le_refl _))⟩
end
section
variable {K : Kx} {mg : Str → Option Value} {G : Hp}
theorem rl_rg {a b : Int} : Rl K mg G (rgV a b) (rgD a b) := by
  unfold rgV rgD
  induction List.range (b - a).toNat with
  | nil => exact .nil
  | cons x l ih => exact .cons (.int _) ih
theorem rgOk_ok {a b : Int} (h : rgOk a b = true) : RgOk a b := by
  unfold rgOk at h
  rw [decide_eq_true_eq] at h
  exact h
theorem c_rgL : CbI K mg rRgL dLstRg := by
  intro P G H e σ xs ds z Q rl hp h k
  unfold dLstRg at h
  split at h
  · split at h
    · rename_i a b c
      cases h
      obtain ⟨v, w, rfl, r1, r2⟩ := Paired.two2 hp
      cases r1
      cases r2
      exact ⟨a, b, .inl rfl, rgOk_ok c, newL rl rl_rg k⟩
    · cases h
  · split at h
    · rename_i b c
      cases h
      obtain ⟨v, rfl, r1⟩ := Paired.one1 hp
      cases r1
      exact ⟨0, b, .inr ⟨rfl, rfl⟩, rgOk_ok c, newL rl rl_rg k⟩
    · cases h
  · cases h
theorem c_rgT : CbI K mg rRgT dTupRg := by
  intro P G H e σ xs ds z Q rl hp h k
  unfold dTupRg at h
  split at h
  · split at h
    · rename_i a b c
      cases h
      obtain ⟨v, w, rfl, r1, r2⟩ := Paired.two2 hp
      cases r1
      cases r2
      exact ⟨a, b, .inl rfl, rgOk_ok c, newTp rl rl_rg k⟩
    · cases h
  · split at h
    · rename_i b c
      cases h
      obtain ⟨v, rfl, r1⟩ := Paired.one1 hp
      cases r1
      exact ⟨0, b, .inr ⟨rfl, rfl⟩, rgOk_ok c, newTp rl rl_rg k⟩
    · cases h
  · cases h
end
section
variable {c : Ct} {W : WX} {N : List Str} {sc : Sx} {k : Nat} {pos p : Pos} {e : Expr} {es : List Expr} {mas : Mo (List Vx)}
theorem j_listRange {p2 pos2 : Pos} (h1 : c.mg ("list" : Str) = none) (h2 : c.mg ("range" : Str) = none) (ha : JA c W N sc k (e :: es) mas) (hg : sc.names.lookup ("list" : Str) = some .globalImplicit := by rfl) (hg2 : sc.names.lookup ("range" : Str) = some .globalImplicit := by rfl)
    (he : ∀ env, starEach (e :: es) env = (false, eval e env) :: starEach es env := by intro _; rfl) (hpl : ∀ env, (backTo pos2 (starEach es env)).any (·.1) = false := by intro _; rfl) :
    JE c W N sc k (.Call (.Name "list" p) [.Call (.Name "range" p2) (e :: es) [] pos2] [] pos) (mCb dLstRg mas) := by
  obtain ⟨ta, g1, g2⟩ := ha
  exact ⟨_, fun X h => pe_rgL h.calm (gl_of h hg) (by rw [h.mg]; exact h1) (prg_a (gl_of h hg2) (by rw [h.mg]; exact h2) (g1 X h) (he _) (hpl _)) rfl, i_cb c_rgL g2⟩
theorem j_tupleRange {p2 pos2 : Pos} (h1 : c.mg ("tuple" : Str) = none) (h2 : c.mg ("range" : Str) = none) (ha : JA c W N sc k (e :: es) mas) (hg : sc.names.lookup ("tuple" : Str) = some .globalImplicit := by rfl) (hg2 : sc.names.lookup ("range" : Str) = some .globalImplicit := by rfl)
    (he : ∀ env, starEach (e :: es) env = (false, eval e env) :: starEach es env := by intro _; rfl) (hpl : ∀ env, (backTo pos2 (starEach es env)).any (·.1) = false := by intro _; rfl) :
    JE c W N sc k (.Call (.Name "tuple" p) [.Call (.Name "range" p2) (e :: es) [] pos2] [] pos) (mCb dTupRg mas) := by
  obtain ⟨ta, g1, g2⟩ := ha
  exact ⟨_, fun X h => pe_rgT h.calm (gl_of h hg) (by rw [h.mg]; exact h1) (prg_a (gl_of h hg2) (by rw [h.mg]; exact h2) (g1 X h) (he _) (hpl _)) rfl, i_cb c_rgT g2⟩
end
end Fw
set_option Elab.async false
set_option linter.all false
set_option maxRecDepth 100000
set_option maxHeartbeats 1000000
/-! Fw32: the module's written dicts, by the head. -/
namespace Fw
open PySem PySem.Spec PyProof.Rows L2
def kDv : Key → He.Dv
  | .inl i => .int i
  | .inr x => .str x
theorem kDv_v {K : PySem.W.Frag} {k : Key} : (kDv k).v K = kV k := by cases k <;> rfl
def tbVals (t : Tb) : List (Str × He.Dv) := t.map fun q => (q.1, kDv q.2)
theorem dicW_at {K : PySem.W.Frag} {a : Addr} {l : List (Option (Str × Int))} (h : He.dicW K a = some l) : ∃ es n sl, K.lookup a = some ⟨.type "dict", none, .dict es n, sl⟩ ∧ es.toList.map He.keyOf = l := by
  unfold He.dicW at h
  split at h
  · rename_i c es n sl hl
    split at h
    · rename_i hc
      rw [Bool.and_eq_true, decide_eq_true_eq] at hc
      obtain ⟨rfl, _⟩ := hc
      exact ⟨es, n, sl, hl, Option.some.inj h⟩
    · cases h
  · cases h
theorem no_key {es : List DictEntry} {z : Str} {P : Params} {ks : List Str} (h : es.map He.keyOf = He.keysIn P ks) (hz : z ∉ ks) : es.find? (·.key.isStr z) = none ∧ es.any (·.refKey) = false := by
  induction es generalizing ks with
  | nil => exact ⟨rfl, rfl⟩
  | cons e es ih =>
    cases ks with
    | nil => cases h
    | cons k ks =>
      have h2 : He.keyOf e :: es.map He.keyOf = some (k, PyData.keyHash P k) :: He.keysIn P ks := h
      injection h2 with h3 h4
      obtain ⟨i1, i2⟩ := ih h4 (fun q => hz (List.mem_cons_of_mem _ q))
      have hk : ∃ t, e.key = .str k t := by
        unfold He.keyOf at h3
        split at h3
        · rename_i x t q
          have h5 := Option.some.inj h3
          injection h5 with h6 _
          exact ⟨t, by rw [q, h6]⟩
        · cases h3
      obtain ⟨t, hk⟩ := hk
      have hne : k ≠ z := fun q => hz (q ▸ List.mem_cons_self)
      constructor
      · rw [List.find?_cons, hk]
        have : (Value.str k t).isStr z = false := by
          simp [Value.isStr, hne]
        rw [this]
        exact i1
      · rw [List.any_cons, i2, Bool.or_false]
        unfold DictEntry.refKey
        rw [hk]
theorem tbGet_none {t : Tb} {z : Str} (h : tbGet t z = none) : z ∉ t.map (·.1) := by
  intro hm
  obtain ⟨q, hq, rfl⟩ := List.mem_map.mp hm
  unfold tbGet at h
  rw [Option.map_eq_none_iff, List.find?_eq_none] at h
  exact h q hq (decide_eq_true rfl)
theorem tbGet_some {t : Tb} {z : Str} {v : Key} (h : tbGet t z = some v) : (z, v) ∈ t := by
  unfold tbGet at h
  obtain ⟨q, hq, rfl⟩ := Option.map_eq_some_iff.mp h
  have h1 := List.mem_of_find?_eq_some hq
  have h2 := List.find?_some hq
  have h3 := of_decide_eq_true h2
  rw [← h3]
  exact h1
theorem tab_ok {K : Kx} {a : Addr} {t : Tb} (h : He.dicW K.K a = some (He.keysIn K.w.params (t.map (·.1)))) (hv : He.valsB K.K a (tbVals t) = true) : TbOk K a t := by
  refine ⟨He.dicW_ok h, fun z => ?_⟩
  cases e : tbGet t z with
  | some v =>
    have hm : (z, kDv v) ∈ tbVals t := List.mem_map.mpr ⟨(z, v), tbGet_some e, rfl⟩
    obtain ⟨u, h1, h2⟩ := He.valsB_ok hv hm
    rw [kDv_v] at h2
    exact ⟨u, h1, h2⟩
  | none =>
    obtain ⟨es, n, sl, h1, h2⟩ := dicW_at h
    obtain ⟨h3, h4⟩ := no_key h2 (tbGet_none e)
    show PySem.W.nsIn K.K a z = some none
    unfold PySem.W.nsIn
    rw [h1]
    simp only [h3, h4]
    rfl
/-! ### the hook with values of tables -/
abbrev Tv : Type := Str × Tb
def tabs (ts : List Tv) : List He.Tab := ts.map fun t => (fun K => He.ga K t.1, t.2.map (·.1))
def obsV (fa : List He.Fa) (fn : List He.DefD) (ts : List Tv) (K : PySem.W.Frag) : He.AlT × List Bool := (He.obsT fa fn (tabs ts) K, ts.map fun t => He.valsB K (He.ga K t.1) (tbVals t.2))
def valV2 (fn : List He.DefD) (ts : List Tv) (w : World) : He.AlT × List Bool := (He.valT fn (tabs ts) w, ts.map fun _ => true)
def obsVG (n : Nat) (fa : List He.Fa) (fn : List He.DefD) (ts : List Tv) (g : Addr → Option Obj) : He.AlT × List Bool := obsV fa fn ts (He.frG g (He.asD g n))
def SaysV (fa : List He.Fa) (fn : List He.DefD) (ts : List Tv) (w : World) (K : PySem.W.Frag) : Prop := obsV fa fn ts K = valV2 fn ts w
def hookV (n : Nat) (fa : List He.Fa) (fn : List He.DefD) (ts : List Tv) : PySem.W.Hook where
  α := He.AlT × List Bool
  obs := fun s => obsVG n fa fn ts s.heap.get?
  val := fun w => valV2 fn ts w
  says := fun w h => ∃ K : PySem.W.Frag, K.In h ∧ SaysV fa fn ts w K
  of := fun _ _ e => ⟨_, He.frG_in, e⟩
  keeps := fun _ _ _ ⟨K, hK, c⟩ k => ⟨K, PySem.W.Frag.In.keeps hK k, c⟩
theorem obsVG_eq {n : Nat} {fa : List He.Fa} {fn : List He.DefD} {ts : List Tv} {g : Addr → Option Obj} {s : Shared} (h : ∀ a, g a = s.heap.get? a) : obsVG n fa fn ts g = (hookV n fa fn ts).obs s := by
  have e : g = s.heap.get? := funext h
  rw [e] <;> rfl
section
variable {fa : List He.Fa} {fn : List He.DefD} {ts : List Tv} {w : World} {K : PySem.W.Frag}
theorem SaysV.d (c : SaysV fa fn ts w K) : He.SaysD fa fn K := congrArg (fun z : He.AlT × List Bool => z.1.1) c
theorem SaysV.tab (c : SaysV fa fn ts w K) {P : Program} (i : Nat) {t : Tv} (h : ts[i]? = some t) : TbOk ⟨K, P, w⟩ (He.ga K t.1) t.2 := by
  have e1 : (tabs ts).map (fun t => He.dicW K (t.1 K)) = (tabs ts).map fun t => some (He.keysIn w.params t.2) := congrArg (fun z : He.AlT × List Bool => z.1.2) c
  have e2 : ts.map (fun t => He.valsB K (He.ga K t.1) (tbVals t.2)) = ts.map fun _ => true := congrArg (fun z : He.AlT × List Bool => z.2) c
  have e3 := congrArg (fun l => l[i]?) e1
  have e4 := congrArg (fun l => l[i]?) e2
  unfold tabs at e3
  simp only [List.map_map, List.getElem?_map, h, Option.map_some] at e3 e4
  exact tab_ok (K := ⟨K, P, w⟩) (Option.some.inj e3) (Option.some.inj e4)
end
end Fw
set_option Elab.async false
set_option linter.all false
set_option maxRecDepth 100000
set_option maxHeartbeats 1000000
/-! Fw33: o[i], o[j] = x, y; t[z::-1]. -/
namespace Fw
open PySem PySem.Spec PyProof.Rows L2
section
variable {K : Kx} {mg : Str → Option Value} {W : WX}
variable {P : Pr} {G H : Hp} {e : En} {σ : L2.St} {Dn : Ends}
def setIxV (j : Nat) (f : D → List D → Option (D × D)) (mi : Mo Vx) (d : D) : So := sOf (mVar j) fun _ => sOf mi fun y => sOf (mVal y) fun k => sOf (mutSl j f [k, d]) fun _ e => .nx e
def sPar2Ix (j : Nat) (f : D → List D → Option (D × D)) (m1 m2 : Mo Vx) (ma : Mo (List Vx)) : So := sOf ma fun xs => match xs with
  | [.v d1, .v d2] => sSeq (setIxV j f m1 d1) (setIxV j f m2 d2)
  | _ => fun _ => .stuck
theorem set_val {j : Nat} {t : TSet} {f : D → List D → Option (D × D)} {ti : TE} {mi : Mo Vx} (ho : MuI K mg (rOfSet t) f) (hi : ImE K mg W ti mi) {v : V} {d : D} (hv : Rp K mg G v d) (r : Rel K mg P G H e σ) (h : PoS K mg P G W Dn (setIxV j f mi d e)) : gSub (tVar j) ti t v σ H fun σ2 H2 => Dn.nx σ2 H2 := by
  refine i_var P G H e σ _ r (PoS.of h fun xo e3 qv h3 G3 H3 vo r3 s3 p3 x3 => ?_)
  have h3 := h3.later s3
  have e23 : e3 = e := by
    unfold mVar at qv
    split at qv <;> first | (cases qv; rfl) | cases qv
  subst e23
  refine hi P G3 H3 e3 σ _ r3 (PoS.of h3 fun y e4 _ h4 G4 H4 vk r4 s4 p4 x4 => ?_)
  obtain ⟨kd, e5, G5, qm5, r5, s5, p5, v5, h5⟩ := PoS.val r4 x4 (h4.later s4)
  have h5 := h5.later s5
  cases q : mutSl j f [kd, d] e5 with
  | exc z e6 => exact (mutSl_ne q).elim
  | stuck => rw [sOf_stuck q] at h5; exact h5.elim
  | ok z e6 =>
    rw [sOf_ok q] at h5
    have hv2 : Rp K mg G5 v d := hv.mono ((s3.trans s4).trans s5)
    have hat : ∀ s : Sl, e5[j]? = some s → s.isO = true → σ[j]? = some (some vo) := fun s hs hso => by
      obtain ⟨s0, hs0, hso0⟩ := (p4.trans p5).isO hs hso
      unfold mVar at qv
      rw [hs0] at qv
      cases s0 with
      | un => cases hso0
      | fz d => cases hso0
      | ow d => cases qv; exact x3.1
      | bo d => cases qv; exact x3.1
    have := mutSl_rel (v := vo) (Q := fun _ H2 => Dn.nx σ H2) ho r5 (.cons v5 (.cons hv2 .nil)) hat q fun H2 w r6 p6 x6 => h5 G5 H2 σ r6 (Sub.refl _)
    obtain ⟨k2, v2, hkv, ht⟩ := this
    cases hkv
    exact ht
theorem PoS.tt {o : Out} {vs : List V} (h : PoS K mg P G W Dn o) : PoS K mg P G W { Dn with nx := fun σ2 H2 => vs = vs ∧ Dn.nx σ2 H2 } o := by
  cases o with
  | nx e2 => exact fun G2 H2 σ2 r s => ⟨rfl, h G2 H2 σ2 r s⟩
  | bk e2 => exact h
  | ct e2 => exact h
  | rt x e2 => exact h
  | exc x e2 => exact h
  | stuck => exact h
theorem is_par2Ix {j : Nat} {t : TSet} {f : D → List D → Option (D × D)} {ta : TA} {t1 t2 : TE} {ma : Mo (List Vx)} {m1 m2 : Mo Vx} (ho : MuI K mg (rOfSet t) f) (ha : ImA K mg W ta ma) (h1 : ImE K mg W t1 m1) (h2 : ImE K mg W t2 m2) :
    ImS K mg W (tAsg (tTupE ta) (gTup K.K 2 (gCons (gSub (tVar j) t1 t) (gCons (gSub (tVar j) t2 t) gNil)))) (sPar2Ix j f m1 m2 ma) := by
  intro P G H e σ Dn r h
  refine ha P G H e σ _ r (PoS.of h fun xs e1 _ hb G1 H1 vs r1 s1 p1 x1 => ?_)
  have hb := hb.later s1
  match xs, hb, x1 with
  | [.v d1, .v d2], hb, x1 =>
    obtain ⟨v1, v2, rfl, q1, q2⟩ : ∃ v1 v2, vs = [v1, v2] ∧ Rp K mg G1 v1 d1 ∧ Rp K mg G1 v2 d2 := by
      cases x1 with
      | cons q1 t1 n1 => cases t1 with
        | cons q2 t2 n2 =>
          cases t2
          exact ⟨_, _, rfl, q1, q2⟩
    refine ⟨by rw [sizeLine_eq]; simp, fun p ob hob hp => ⟨p, _, rfl, .inl (.inr ⟨ob, upd_same⟩), rfl, ?_⟩⟩
    have r2 := r1.grow (Sub.new (o := .frz ob (.tup [v1, v2])) hp)
    refine ⟨v1, [v2], rfl, ?_⟩
    have hb2 : PoS K mg P G1 W Dn (match setIxV j f m1 d1 e1 with
      | .nx e' => setIxV j f m2 d2 e'
      | o => o) := hb
    refine set_val (Dn := { Dn with nx := fun σ2 H2 => gCons (gSub (tVar j) t2 t) gNil [v2] σ2 H2 Dn.nx }) ho h1 q1 r2 ?_
    cases q : setIxV j f m1 d1 e1 with
    | nx e2 =>
      rw [q] at hb2
      exact fun G2 H2 σ2 r3 s3 => ⟨v2, [], rfl, set_val (Dn := { Dn with nx := fun σ3 H3 => ([] : List V) = [] ∧ Dn.nx σ3 H3 }) ho h2 (Rp.mono s3 q2) r3 (PoS.tt (PoS.later hb2 s3))⟩
    | bk e2 => rw [q] at hb2; exact hb2
    | ct e2 => rw [q] at hb2; exact hb2
    | rt x e2 => rw [q] at hb2; exact hb2
    | exc x e2 => rw [q] at hb2; exact hb2
    | stuck => rw [q] at hb2; exact hb2
  | [], hb, _ => exact hb.elim
  | [.v _], hb, _ => exact hb.elim
  | .nw _ :: _, hb, _ => exact hb.elim
  | .pl _ :: _, hb, _ => exact hb.elim
  | .v _ :: .nw _ :: _, hb, _ => exact hb.elim
  | .v _ :: .pl _ :: _, hb, _ => exact hb.elim
  | .v _ :: .v _ :: _ :: _, hb, _ => exact hb.elim
end
section
variable {c : Ct} {W : WX} {N : List Str} {sc : Sx} {k : Nat} {pos p p2 : Pos} {a b i1 i2 : Expr} {m1 m2 : Mo Vx} {mas : Mo (List Vx)} {x : Str}
theorem js_par2Ix {tp1 tp2 pt pt2 : Pos} {kt k2 : Nat} {vs : List Expr} (j : Nat) (ha : JA c W N sc k vs mas) (h1 : JE c W N sc k i1 m1) (h2 : JE c W N sc k i2 m2) (hN : N[j]? = some x := by rfl)
    (hv : sc.names.lookup x = some .local ∨ sc.names.lookup x = some .cell ∨ sc.names.lookup x = some .free := by first | exact Or.inl rfl | exact Or.inr (Or.inl rfl) | exact Or.inr (Or.inr rfl)) (hd : (x == ("__debug__" : Str)) = false := by decide) (hcd : (x == ("__classdict__" : Str)) = false := by decide)
    (hl : ∀ env, (assignEach [.Subscript (.Name x p) i1 tp1, .Subscript (.Name x p2) i2 tp2] env).length = 2 := by intro _; rfl) (hst : ∀ env, (assignEach [.Subscript (.Name x p) i1 tp1, .Subscript (.Name x p2) i2 tp2] env).findIdx? (·.1) = none := by intro _; rfl)
    (hw : swappedStores [.Tuple [.Subscript (.Name x p) i1 tp1, .Subscript (.Name x p2) i2 tp2] kt pt] (.Tuple vs k2 pt2) (dEnv sc.toScope) = pure none := by rfl) (hs : swapsWithSole [.Tuple [.Subscript (.Name x p) i1 tp1, .Subscript (.Name x p2) i2 tp2] kt pt] (.Tuple vs k2 pt2) pos.line (dEnv sc.toScope) = pure false := by rfl)
    (h11 : ∀ env, (assignEach [.Tuple [.Subscript (.Name x p) i1 tp1, .Subscript (.Name x p2) i2 tp2] kt pt] env).map (·.2) = [assign (.Tuple [.Subscript (.Name x p) i1 tp1, .Subscript (.Name x p2) i2 tp2] kt pt) env] := by intro _; rfl)
    (e1 : ∀ env, (assignEach [.Subscript (.Name x p) i1 tp1, .Subscript (.Name x p2) i2 tp2] env).map (·.2) = assign (.Subscript (.Name x p) i1 tp1) env :: (assignEach [.Subscript (.Name x p2) i2 tp2] env).map (·.2) := by intro _; rfl)
    (e2 : ∀ env, (assignEach [.Subscript (.Name x p2) i2 tp2] env).map (·.2) = assign (.Subscript (.Name x p2) i2 tp2) env :: (assignEach [] env).map (·.2) := by intro _; rfl)
    (as1 : ∀ env v, assign (.Subscript (.Name x p) i1 tp1) env v = (holding [v] (eval (.Name x p) env) >>= fun ov => holding [v, ov] (eval i1 env) >>= fun iv => standAt tp1 >>= fun _ => holding [v, ov, iv] (setItem ov iv v) >>= fun _ => release [v, ov, iv] []) := by intro _ _; rfl)
    (as2 : ∀ env v, assign (.Subscript (.Name x p2) i2 tp2) env v = (holding [v] (eval (.Name x p2) env) >>= fun ov => holding [v, ov] (eval i2 env) >>= fun iv => standAt tp2 >>= fun _ => holding [v, ov, iv] (setItem ov iv v) >>= fun _ => release [v, ov, iv] []) := by intro _ _; rfl) :
    JS c W N sc k (.Assign [.Tuple [.Subscript (.Name x p) i1 tp1, .Subscript (.Name x p2) i2 tp2] kt pt] (.Tuple vs k2 pt2) pos) (sPar2Ix j fSetL m1 m2 mas) := by
  obtain ⟨ta, g1, g2⟩ := ha
  obtain ⟨t1, g3, g4⟩ := h1
  obtain ⟨t2, g5, g6⟩ := h2
  refine ⟨_, fun X h => ?_, is_par2Ix (t := rSetL) m_setL g2 g4 g6⟩
  have q1 : PG X (.Subscript (.Name x p) i1 tp1) (gSub (tVar j) t1 rSetL) := pg_sub (pe_var (pos := p) (by rw [h.nn]; exact hN) (by unfold Vis; rw [h.scp]; exact hv) hd hcd) (g3 X h) set_list (as1 _)
  have q2 : PG X (.Subscript (.Name x p2) i2 tp2) (gSub (tVar j) t2 rSetL) := pg_sub (pe_var (pos := p2) (by rw [h.nn]; exact hN) (by unfold Vis; rw [h.scp]; exact hv) hd hcd) (g5 X h) set_list (as2 _)
  have := pg_tup (X := X) (k := kt) (pos := pt) (n := 2) h.calm (pgs_cons q1 (pgs_cons q2 pgs_nil (e2 _)) (e1 _)) (hl _) (hst _)
  rw [h.kk] at this
  exact ps_asg (pe_tupE (g1 X h)) this ((sws_congr (dEnv_of h)).trans hs) ((sw_congr (dEnv_of h)).trans hw) (h11 _)
end
/-! ### t[z::-1] -/
section
variable {prog : Program} {w : World} {A : Around} {E : Value → Shared → Prop} {s : Shared}
theorem adjust_low {n : Nat} {z : Int} (h0 : 0 ≤ z) (h1 : z < n) : Builtin.Slice.sliceAdjust (some z) none (-1) (n : Int) = (z, -1) := by
  unfold Builtin.Slice.sliceAdjust
  have e1 : ¬ z < 0 := by omega
  have e2 : ¬ z ≥ (n : Int) := by omega
  simp [e1, e2]
  try omega
theorem places_low {z : Int} (h0 : 0 ≤ z) : Builtin.Slice.slicePlaces z (-1) (-1) = z.toNat + 1 := by
  unfold Builtin.Slice.slicePlaces
  have h1 : ¬ ((-1 : Int) > 0) := by omega
  simp only [h1, if_false]
  have h : z > -1 := by omega
  simp only [h, if_true]
  have e : -(-1 : Int) = 1 := by omega
  rw [e, Int.ediv_one]
  omega
theorem sliceApplied_low {sl : Addr} {vl vu vs : Value} {n : Nat} {z : Int} {Q : Int × Int × Nat → Shared → Prop} (h0 : 0 ≤ z) (h1 : z < n) (hs : s.heap.IsSliceOf sl vl vu vs) (pl : IsPart vl (some z)) (pu : IsPart vu none) (ps : IsPart vs (some (-1)))
    (h : Q (z, -1, z.toNat + 1) s) : wpAny (model prog w) A (Builtin.Slice.sliceApplied (.ref sl) (pure (n : Int))) Q E s := by
  obtain ⟨os, hos, hcs, hds⟩ := id hs
  unfold Builtin.Slice.sliceApplied Builtin.Slice.sliceFields
  refine wpAny_bind (wpAny_bind (wpAny_field hos hds (x := vl) rfl (wpAny_bind (wpAny_field hos hds (x := vu) rfl (wpAny_bind (wpAny_field hos hds (x := vs) rfl (wpAny_pure ?_)))))))
  refine wpAny_bind (HT.slicePart_ ps ?_)
  show wpAny _ _ (if ((-1 : Int) == 0) = true then _ else _) _ _ s
  rw [if_neg (by decide)]
  refine wpAny_bind (HT.slicePart_ pl (wpAny_bind (HT.slicePart_ pu (wpAny_bind (wpAny_pure ?_)))))
  show wpAny _ _ (match Builtin.Slice.sliceAdjust (some z) none (-1) (n : Int) with | (lo, hi) => pure (lo, (-1 : Int), Builtin.Slice.slicePlaces lo hi (-1))) _ _ s
  rw [adjust_low h0 h1]
  show wpAny _ _ (pure (z, (-1 : Int), Builtin.Slice.slicePlaces z (-1) (-1))) _ _ s
  rw [places_low h0]
  exact wpAny_pure h
theorem pick_low {its : List Value} {z : Int} (h0 : 0 ≤ z) (h1 : z < its.length) : ((List.range (z.toNat + 1)).filterMap fun (m : Nat) => its.toArray[(z + (m : Int) * -1).toNat]?).toArray = (its.take (z.toNat + 1)).reverse.toArray := by
  have hl : (its.take (z.toNat + 1)).length = z.toNat + 1 := by
    rw [List.length_take]
    omega
  congr 1
  have e := pick_rev (its.take (z.toNat + 1)).toArray
  rw [List.size_toArray, hl] at e
  have e2 := congrArg Array.toList e
  rw [List.toList_toArray, List.toList_toArray] at e2
  refine Eq.trans ?_ e2
  refine fm_congr fun m hm => ?_
  have hm := List.mem_range.mp hm
  have e3 : (z + (m : Int) * -1).toNat = z.toNat - m := by omega
  have e4 : ((((z.toNat + 1 : Nat) : Int) - 1) + (m : Int) * -1).toNat = z.toNat - m := by omega
  rw [e3, e4]
  simp only [List.getElem?_toArray]
  rw [List.getElem?_take_of_lt (by omega)]
theorem getItem_tup_low {t sl : Addr} {its : List Value} {vl vu vs : Value} {z : Int} {Q : Value → Shared → Prop} (h0 : 0 ≤ z) (h1 : z < its.length) (ht : IsTup s.heap t its.toArray) (hs : s.heap.IsSliceOf sl vl vu vs) (pl : IsPart vl (some z)) (pu : IsPart vu none) (ps : IsPart vs (some (-1)))
    (h : Q (.ref s.heap.objs.size) { s with heap := s.heap.push { cls := .type "tuple", data := .seq (its.take (z.toNat + 1)).reverse.toArray } }) (hsz : its.length ≤ sizeLine) : wpAny (model prog w) A (getItem (.ref t) (.ref sl)) Q E s := by
  have htake : sizeOk (.seq (its.take (z.toNat + 1)).reverse.toArray) := by
    show (its.take (z.toNat + 1)).reverse.toArray.size ≤ sizeLine
    rw [List.size_toArray, List.length_reverse, List.length_take]
    omega
  obtain ⟨os, hos, hcs, hds⟩ := id hs
  have hTs : s.TypeIs (.ref sl) "slice" := ⟨os, hos, hcs⟩
  unfold getItem
  try with_reducible refine wpAny_holding ?_
  first | refine wpAny_bind (wpAny_pure ?_) | skip
  refine wpAny_bind (wpAny_sequenceKey ht.typeIs (by decide) ?_)
  refine wpAny_bind (wpAny_callSpecial?_slot (name := Str.ofString "__getitem__") ht.typeIs PyProof.Rows.slot_tuple_getitem
    (wpAny_call_entry PyProof.Rows.slot_tuple_getitem ht.typeIs entry_tuple_getitem ?_ (args_tuple_getitem _ _)))
  show wpAny _ _ (Builtin.Tuple.tupleItemsOf (.ref t) >>= _) _ _ s
  refine wpAny_bind (tupleItemsOf_ ht ?_)
  refine wpAny_bind (wpAny_typeOf hTs ?_)
  rw [if_pos (by decide)]
  refine wpAny_bind (sliceApplied_low (n := its.toArray.size) h0 (by rw [List.size_toArray]; exact h1) hs pl pu ps ?_)
  have hno : ¬ ((z == 0 && (-1 : Int) == 1 && (z.toNat + 1) == its.toArray.size) = true) := by simp
  show wpAny _ _ (if (z == 0 && (-1 : Int) == 1 && (z.toNat + 1) == its.toArray.size) = true then _ else _) _ _ s
  rw [if_neg hno, pick_low h0 h1]
  first
    | exact wpAny_bind (m := Builtin.Tuple.tupleExact _) (wpAny_newObj_type (wpAny_pure ⟨_, rfl, wpAny_pure h⟩) htake)
    | exact wpAny_bind (m := Builtin.Tuple.tupleExact _) (wpAny_newObj_type (wpAny_bind (wpAny_pure (wpAny_pure ⟨_, rfl, wpAny_pure h⟩))) htake)
    | exact wpAny_bind (wpAny_bind (m := Builtin.Tuple.tupleExact _) (wpAny_newObj_type (wpAny_pure (wpAny_pure ⟨_, rfl, wpAny_pure h⟩)) htake))
    | exact wpAny_bind (wpAny_bind (m := Builtin.Tuple.tupleExact _) (wpAny_newObj_type (wpAny_pure ⟨_, rfl, wpAny_pure h⟩) htake))
end
def rRevF (K : PySem.W.Frag) : R2 := fun x y H Q => ∃ j, y = .int j ∧ ∃ i, (some j : Option Int) = some i ∧ ∃ a xs, x = .ref a ∧ SqT K H a xs ∧ 0 ≤ i ∧ i < xs.length ∧ NewT H Q (xs.take (i.toNat + 1)).reverse
def dRevF : D → D → Option Vx
  | .tuple ds, .int z => if 0 ≤ z ∧ z < ds.length then some (.v (.tuple (ds.take (z.toNat + 1)).reverse)) else none
  | _, _ => none
section
variable {K : Kx} {mg : Str → Option Value}
theorem o_revF : OpI K mg (rRevF K.K) dRevF := by
  intro P G H e σ x y a b z Q rl ra rb h k
  unfold dRevF at h
  split at h
  · split at h
    · rename_i c
      cases h
      cases rb
      cases ra with
      | tup e1 l1 => exact ⟨_, rfl, _, rfl, _, _, rfl, rl.sub.q e1, c.1, by rw [l1.length]; exact c.2, newTp rl (l1.take _).reverse k⟩
    · cases h
  · cases h
end
section
variable {X : Cx}
theorem pe_revF {e b : Expr} {te tb : TE} {k : Nat} {p1 p2 p3 pos : Pos} (he : PE X e te) (hb : PE X b tb) : PE X (.Subscript e (.Slice (some b) none (some (.UnaryOp .USub (.Constant (.int 1) k p1) p2)) p3) pos) (tOp (rRevF X.K) te tb) := by
  refine ⟨fun pins s σ H Q I h => ?_⟩
  refine Subscript_ (thn (he.run pins s σ H _ I h) fun v s1 ⟨x, H1, I1, r1, q1⟩ => ?_)
  have hlo : PO X (some b) (tPart tb) := po_some hb
  have hst : PO X (some (.UnaryOp .USub (.Constant (.int 1) k p1) p2)) (tPart (tUn (rU fun i => .int (-i)) (tC (.int 1)))) := po_some (pe_un un_neg pe_int)
  refine wpAny_Slice (thn (hlo.run pins s1 σ H1 (fun o H2 => ∃ i, o = some i ∧ ∃ a xs, x = .ref a ∧ SqT X.K H2 a xs ∧ 0 ≤ i ∧ i < xs.length ∧ NewT H2 Q (xs.take (i.toNat + 1)).reverse) I1 q1) fun vl s2 ⟨l, H2, I2, pl, q3⟩ => ?_)
  obtain ⟨i, rfl, a, xs, rfl, hx, h0, h1, q⟩ := q3
  cases r1
  refine thn (po_none.run pins s2 σ H2 (fun o H3 => o = none ∧ H3 = H2) I2 ⟨rfl, rfl⟩) fun vu s3 ⟨u, H3, I3, pu, eu, e3⟩ => ?_
  subst eu e3
  refine thn (hst.run pins s3 σ H3 (fun o H4 => o = some (-1) ∧ H4 = H3) I3 ⟨1, rfl, -1, rfl, rfl, rfl⟩) fun vs s4 ⟨o, H4, I4, ps, eo, e4⟩ => ?_
  subst eo e4
  have I5 : Inv X pins σ H4 { s4 with heap := s4.heap.push { cls := .type "slice", data := .fields #[vl, vu, vs] } } := I4.kept (t' := s4.toks) fun b ob q => Heap.get?_push_of_some _ q
  show wpAny (model X.prog X.w) X.A (subscriptTail e (.Slice (some b) none (some (.UnaryOp .USub (.Constant (.int 1) k p1) p2)) p3) (.ref a) (.ref s4.heap.objs.size)) (EP X pins σ Q) X.xe { s4 with heap := s4.heap.push { cls := .type "slice", data := .fields #[vl, vu, vs] } }
  obtain ⟨its, r, ht, hz⟩ := I5.tuple hx
  have hlen := r.length
  refine tail_any (ops := [.ref a, .ref s4.heap.objs.size]) ht.typeIs (PyProof.Rows.slot_tuple_getitem.lookup) ?_ (by with_unfolding_all rfl)
  refine getItem_tup_low h0 (by omega) ht (Heap.IsSliceOf.new _ vl vu vs) pl pu ps ?_ (by omega)
  exact ⟨.ref _, _, invTupE I5 (its := (its.take (i.toNat + 1)).reverse) (r.take _).reverse (by rw [List.length_reverse, List.length_take]; omega), rfl, q _ _ rfl (I5.hok.fresh (Nat.le_refl _))⟩
end
section
variable {c : Ct} {W : WX} {N : List Str} {sc : Sx} {k : Nat} {pos : Pos} {a b : Expr} {ma mb : Mo Vx}
theorem j_revF {kk : Nat} {p1 p2 p3 : Pos} (ha : JE c W N sc k a ma) (hb : JE c W N sc k b mb) : JE c W N sc k (.Subscript a (.Slice (some b) none (some (.UnaryOp .USub (.Constant (.int 1) kk p1) p2)) p3) pos) (mOp dRevF ma mb) := by
  obtain ⟨ta, h1, h2⟩ := ha
  obtain ⟨tb, h3, h4⟩ := hb
  exact ⟨tOp (rRevF c.K.K) ta tb, fun X h => by have := pe_revF (X := X) (k := kk) (p1 := p1) (p2 := p2) (p3 := p3) (pos := pos) (h1 X h) (h3 X h); rw [h.kk] at this; exact this, i_op o_revF h2 h4⟩
end
end Fw
set_option Elab.async false
set_option linter.all false
set_option maxRecDepth 100000
set_option maxHeartbeats 400000
/-! Fw34: more small terms: lazy tests, calls of any number of values, draws from the cup at the first place. -/
namespace Fw
open PySem PySem.Spec PyProof.Rows L2
section
variable {e : En} {d : D} {i n k j : Nat} {m m2 ma mb : Mo Vx} {t u : Mo Bool} {ms : Mo (List Vx)} {ds : List D} {f : Fn}
theorem eb_orT (h : EvB t e true) : EvB (mOr t u) e true := by
  unfold EvB
  rw [w_or]
  refine h.mono ?_
  rintro c e1 ⟨rfl, rfl⟩
  rw [if_pos rfl]
  exact ⟨rfl, rfl⟩
theorem eb_orF {b : Bool} (h : EvB t e false) (h2 : EvB u e b) : EvB (mOr t u) e b := by
  unfold EvB
  rw [w_or]
  refine h.mono ?_
  rintro c e1 ⟨rfl, rfl⟩
  rw [if_neg (by simp)]
  exact h2
theorem eb_andF (h : EvB t e false) : EvB (mAnd t u) e false := by
  unfold EvB
  rw [w_and]
  refine h.mono ?_
  rintro c e1 ⟨rfl, rfl⟩
  rw [if_neg (by simp)]
  exact ⟨rfl, rfl⟩
theorem eb_andT {b : Bool} (h : EvB t e true) (h2 : EvB u e b) : EvB (mAnd t u) e b := by
  unfold EvB
  rw [w_and]
  refine h.mono ?_
  rintro c e1 ⟨rfl, rfl⟩
  rw [if_pos rfl]
  exact h2
theorem eb_and {a b : Bool} (h : EvB t e a) (h2 : EvB u e b) : EvB (mAnd t u) e (a && b) := by
  cases a with
  | false => exact eb_andF h
  | true => exact eb_andT h h2
theorem ev_andVF (h : EvB (mTst ma) e false) : EvV (mAndV ma mb) e (.bool false) := by
  unfold EvV
  rw [w_andV]
  refine h.mono ?_
  rintro c e1 ⟨rfl, rfl⟩
  rw [if_neg (by simp)]
  exact ⟨rfl, rfl⟩
theorem ev_andVT {z : D} (h : EvB (mTst ma) e true) (h2 : EvV mb e z) : EvV (mAndV ma mb) e z := by
  unfold EvV
  rw [w_andV]
  refine h.mono ?_
  rintro c e1 ⟨rfl, rfl⟩
  rw [if_pos rfl]
  exact h2
theorem ev_notV {b : Bool} (h : EvB (mTst ma) e b) : EvV (mNotV ma) e (.bool (!b)) := by
  unfold EvV
  rw [w_notV]
  refine h.mono ?_
  rintro c e1 ⟨rfl, rfl⟩
  exact ⟨rfl, rfl⟩
/-- a <= x <= b -/
theorem ev_chainI {m3 : Mo Vx} {a x b : Int} (h1 : EvD m e (.int a)) (h2 : EvD m2 e (.int x)) (h3 : EvD m3 e (.int b)) : EvV (mChain dLeX dLeX m m2 m3) e (.bool (decide (a ≤ x) && decide (x ≤ b))) := by
  unfold EvV
  rw [w_chain]
  refine h1.mono ?_
  rintro x1 e1 ⟨rfl, q1, q2⟩
  refine h2.mono ?_
  rintro x2 e2 ⟨rfl, q3, q4⟩
  rw [q1, q3, w2_some, opB_some (c := decide (a ≤ x)) rfl, wO_some, d_v, wB_some]
  by_cases hc : a ≤ x
  · rw [if_pos (by simpa using hc)]
    refine h3.mono ?_
    rintro x3 e3 ⟨rfl, q5, q6⟩
    rw [q3, q5, w2_some, opB_some (c := decide (x ≤ b)) rfl, wO_some]
    exact ⟨rfl, by simp [hc]⟩
  · rw [if_neg (by simpa using hc)]
    exact ⟨rfl, by simp [hc]⟩
/-! calls with values alone, of any number -/
theorem prep_vals : ∀ {xs : List Vx} {e : En} {Q : List Vx → En → Prop}, (wM (mVals xs) e fun ds e1 => Q (ds.map .v) e1) → wM (mPrep [] xs) e Q
  | [], e, Q, h => by
    rw [w_prep_nil]
    rw [w_vals_nil] at h
    exact h
  | x :: xs, e, Q, h => by
    rw [w_vals_cons] at h
    rw [w_prep_more, w_prep1_f]
    exact h.mono fun d e1 q => prep_vals q
theorem argSls_vs : ∀ {ds : List D}, argSls e (ds.map .v) = some (ds.map .fz)
  | [] => rfl
  | d :: ds => by
    rw [List.map_cons, argSls_cons, argSl_v, argSls_vs]
    rfl
theorem plsOk_vs : ∀ {ds : List D}, plsOk (ds.map .v) = true
  | [] => rfl
  | d :: ds => by
    rw [List.map_cons, po_v, plsOk_vs]
theorem backsOk_vs : ∀ {ds : List D}, backsOk (ds.map .fz) (ds.map fun _ => Sl.un) = true
  | [] => rfl
  | d :: ds => by
    rw [List.map_cons, List.map_cons, bo_fz, backsOk_vs]
theorem findPl_vs {j : Nat} : ∀ {ds : List D}, findPl j (ds.map .v) (ds.map fun _ => Sl.un) = none
  | [] => rfl
  | d :: ds => by
    rw [List.map_cons, List.map_cons, findPl_v, findPl_vs]
theorem backs_vs : backs e (ds.map .v) (ds.map fun _ => Sl.un) = e := by
  rw [backs_e]
  apply List.ext_getElem
  · simp
  · intro i h1 h2
    rw [List.getElem_mapIdx, findPl_vs]
    rfl
theorem ev_calls {z : D} (h : EvL ms e ds) (hf : wF f (ds.map .fz) fun x o => x = .v z ∧ o = ds.map fun _ => .un) : EvV (mCall [] f ms) e z := by
  unfold EvV
  rw [w_call]
  refine h.mono ?_
  rintro xs e1 ⟨rfl, q1, q2⟩
  refine prep_vals (q2 _ ?_)
  rw [argSls_vs, wArg_some]
  refine ⟨plsOk_vs, hf.mono ?_⟩
  rintro x o ⟨rfl, rfl⟩
  exact ⟨by rw [backsOk_vs]; rfl, backs_vs, rfl⟩
end
/-! draws: the cup stands at the first place -/
section
variable {r : En} {d : D} {i n k j : Nat} {m m2 ma mb : Mo Vx} {t u : Mo Bool} {ms : Mo (List Vx)} {ds : List D} {f : Fn}
/-- x reads as d, whatever the cup holds -/
def Vst (r : En) (x : Vx) (d : D) : Prop := ∀ c, Vok x (.bo c :: r) d
theorem vst_v : Vst r (.v d) d := fun _ => vok_v
theorem vst_nw : Vst r (.nw d) d := fun _ => vok_nw
def EC (m : Mo Vx) (r : En) (P : Vx → Prop) : Prop := ∀ c, CupOk c → wM m (.bo c :: r) fun x e1 => ∃ c', CupOk c' ∧ e1 = .bo c' :: r ∧ P x
def ECL (ms : Mo (List Vx)) (r : En) (P : List Vx → Prop) : Prop := ∀ c, CupOk c → wM ms (.bo c :: r) fun x e1 => ∃ c', CupOk c' ∧ e1 = .bo c' :: r ∧ P x
theorem EC.mono {P P' : Vx → Prop} (h : EC m r P) (k : ∀ x, P x → P' x) : EC m r P' := fun c hc => (h c hc).mono fun x e1 ⟨c', h1, h2, h3⟩ => ⟨c', h1, h2, k x h3⟩
theorem ECL.mono {P P' : List Vx → Prop} (h : ECL ms r P) (k : ∀ x, P x → P' x) : ECL ms r P' := fun c hc => (h c hc).mono fun x e1 ⟨c', h1, h2, h3⟩ => ⟨c', h1, h2, k x h3⟩
theorem ec_v {P : Vx → Prop} (h : ∀ c, EvV m (.bo c :: r) d) (p : P (.v d)) : EC m r P := fun c hc => (h c).mono fun x e1 ⟨h1, h2⟩ => ⟨c, hc, h1, h2 ▸ p⟩
theorem ec_n {P : Vx → Prop} (h : ∀ c, EvN m (.bo c :: r) d) (p : P (.nw d)) : EC m r P := fun c hc => (h c).mono fun x e1 ⟨h1, h2⟩ => ⟨c, hc, h1, h2 ▸ p⟩
theorem ec_c {P : Vx → Prop} (p : P (.v d)) : EC (mC d) r P := ec_v (fun _ => ev_c) p
theorem ec_var {P : Vx → Prop} (h : r[i]? = some (.fz d)) (p : P (.v d)) : EC (mVar (i + 1)) r P := ec_v (fun _ => ev_var h) p
theorem ecl_nil {P : List Vx → Prop} (p : P []) : ECL mNil r P := fun c hc => by
  rw [w_nil]
  exact ⟨c, hc, rfl, p⟩
theorem ecl_cons {P : List Vx → Prop} (h : EC m r fun x => ECL ms r fun xs => P (x :: xs)) : ECL (mCons m ms) r P := fun c hc => by
  rw [w_cons]
  refine (h c hc).mono ?_
  rintro x e1 ⟨c1, hc1, rfl, q⟩
  exact q c1 hc1
theorem ecl_consF {P : List Vx → Prop} (h : EC m r fun x => x.isP = false ∧ ECL ms r fun xs => P (x :: xs)) : ECL (mConsF m ms) r P := fun c hc => by
  rw [w_consF]
  refine (h c hc).mono ?_
  rintro x e1 ⟨c1, hc1, rfl, hx, q⟩
  cases x with
  | v d =>
    rw [w_frz_v]
    exact q c1 hc1
  | nw d =>
    rw [w_frz_nw]
    exact q c1 hc1
  | pl i => cases hx
/-- each of them reads so -/
inductive Vsts (r : En) : List Vx → List D → Prop
  | nil : Vsts r [] []
  | cons {x : Vx} {d : D} {xs : List Vx} {ds : List D} : Vst r x d → Vsts r xs ds → Vsts r (x :: xs) (d :: ds)
theorem vsts_ds {xs : List Vx} {c : D} (h : Vsts r xs ds) : Vx.ds (.bo c :: r) xs = some ds := by
  induction h with
  | nil => rfl
  | cons h1 _ ih => rw [ds_cons, (h1 c).1, ih]; rfl
theorem vsts_vals {xs : List Vx} {c : D} (h : Vsts r xs ds) : ∀ {Q : List D → En → Prop}, Q ds (.bo c :: r) → wM (mVals xs) (.bo c :: r) Q := by
  induction h with
  | nil => intro Q q; rw [w_vals_nil]; exact q
  | cons h1 _ ih => intro Q q; rw [w_vals_cons]; exact (h1 c).2 _ (ih q)
theorem ec_op {P : Vx → Prop} {f : D → D → Option Vx} (h : EC ma r fun x => ∃ a, Vst r x a ∧ EC mb r fun y => ∃ b, Vst r y b ∧ ∃ z, f a b = some z ∧ P z) : EC (mOp f ma mb) r P := fun c hc => by
  rw [w_op]
  refine (h c hc).mono ?_
  rintro x e1 ⟨c1, hc1, rfl, a, ha, q⟩
  refine (q c1 hc1).mono ?_
  rintro y e2 ⟨c2, hc2, rfl, b, hb, z, hz, p⟩
  rw [(ha c2).1, (hb c2).1, w2_some, hz, wO_some]
  exact ⟨c2, hc2, rfl, p⟩
theorem ec_cb {P : Vx → Prop} {f : List D → Option Vx} (h : ECL ms r fun xs => ∃ ds, Vsts r xs ds ∧ ∃ z, f ds = some z ∧ P z) : EC (mCb f ms) r P := fun c hc => by
  rw [w_cb]
  refine (h c hc).mono ?_
  rintro xs e1 ⟨c1, hc1, rfl, ds, hs, z, hz, p⟩
  rw [vsts_ds hs, wL_some, hz, wO_some]
  exact ⟨c1, hc1, rfl, p⟩
theorem ec_tup {P : Vx → Prop} (h : ECL ms r fun xs => ∃ ds, Vsts r xs ds ∧ ds.length ≤ 1000 ∧ P (.v (.tuple ds))) : EC (mTup ms) r P := fun c hc => by
  rw [w_tup]
  refine (h c hc).mono ?_
  rintro xs e1 ⟨c1, hc1, rfl, ds, hs, hl, p⟩
  refine vsts_vals hs ⟨by rw [sizeLine_eq]; omega, c1, hc1, rfl, p⟩
theorem ec_lst {P : Vx → Prop} (h : ECL ms r fun xs => ∃ ds, Vsts r xs ds ∧ ds.length ≤ 1000 ∧ P (.nw (.list ds))) : EC (mLst ms) r P := fun c hc => by
  rw [w_lst]
  refine (h c hc).mono ?_
  rintro xs e1 ⟨c1, hc1, rfl, ds, hs, hl, p⟩
  refine vsts_vals hs ⟨by rw [sizeLine_eq]; omega, c1, hc1, rfl, p⟩
/-- a def that draws: its answers -/
def Drw (f : Fn) (ds : List D) (P : Vx → Prop) : Prop := ∀ c, CupOk c → wF f (.bo c :: ds.map .fz) fun x o => ∃ c', CupOk c' ∧ o = .bo c' :: ds.map (fun _ => Sl.un) ∧ x.isP = false ∧ P x
theorem ec_call {P : Vx → Prop} (h : ECL ms r fun xs => ∃ ds, Vsts r xs ds ∧ Drw f ds P) : EC (mCall [true] f (mCons (mVar 0) ms)) r P := fun c hc => by
  rw [w_call, w_cons, w_var]
  show wM ms (.bo c :: r) _
  refine (h c hc).mono ?_
  rintro xs e1 ⟨c1, hc1, rfl, ds, hs, hf⟩
  rw [w_prep_cons, w_prep1_t]
  refine prep_vals (vsts_vals hs ?_)
  rw [argSls_cons, argSl_pl, argSls_vs]
  show wArg f (.pl 0 :: ds.map .v) (some (.bo c1 :: ds.map .fz)) _ _
  rw [wArg_some]
  have hp : ∀ ds : List D, hasPl 0 (ds.map .v) = false := fun ds => by
    induction ds with
    | nil => rfl
    | cons d ds ih => rw [List.map_cons, hp_v, ih]
  refine ⟨by rw [po_pl, hp, plsOk_vs]; rfl, (hf c1 hc1).mono ?_⟩
  rintro x o ⟨c2, hc2, rfl, hx, p⟩
  refine ⟨by rw [bo_bo, backsOk_vs, hx]; rfl, c2, hc2, ?_, p⟩
  rw [backs_e, List.mapIdx_cons, findPl_p, if_pos rfl]
  congr 1
  apply List.ext_getElem
  · simp
  · intro i h1 h2
    rw [List.getElem_mapIdx, findPl_p, if_neg (by omega), findPl_vs]
    rfl
theorem ws_setC {Q : Ed} {c : D} (hc : CupOk c) (h : EC m r fun x => ∃ s r', ((∃ d, x = .v d ∧ s = .fz d) ∨ ∃ d, x = .nw d ∧ s = .ow d) ∧ (∀ c, setSl i s (.bo c :: r) = some (.bo c :: r')) ∧ ∀ c, CupOk c → Q.nx (.bo c :: r')) : wS (sSet i m) (.bo c :: r) Q := by
  rw [w_set]
  refine (h c hc).mono ?_
  rintro x e1 ⟨c1, hc1, rfl, s, r', hx, hs, q⟩
  rcases hx with ⟨d, rfl, rfl⟩ | ⟨d, rfl, rfl⟩
  · rw [wSet_v, hs]
    exact q c1 hc1
  · rw [wSet_nw, hs]
    exact q c1 hc1
theorem ws_retC {Q : Ed} {c : D} (hc : CupOk c) (h : EC m r fun x => x.isP = false ∧ ∀ c, CupOk c → Q.rt x (.bo c :: r)) : wS (sRet m) (.bo c :: r) Q := by
  rw [w_retS]
  refine (h c hc).mono ?_
  rintro x e1 ⟨c1, hc1, rfl, hx, q⟩
  cases x with
  | v d => exact q c1 hc1
  | nw d => exact q c1 hc1
  | pl i => cases hx
end
/-! statements in a row -/
section
variable {e e1 : En} {Q : Ed} {d : D} {i : Nat} {m : Mo Vx} {rest : So}
/-- if t: return False -/
def sBad (t : Mo Bool) : So := sIf t (sSeq (sRet (mC (.bool false))) sSkip) sSkip
theorem sq_bad {t : Mo Bool} {b : Bool} (h : EvB t e b) (h1 : b = true → Q.rt (.v (.bool false)) e) (h0 : b = false → wS rest e Q) : wS (sSeq (sBad t) rest) e Q := by
  rw [w_seq]
  refine ws_if h ?_
  cases b with
  | true =>
    rw [if_pos rfl, w_seq]
    exact ws_ret ev_c (h1 rfl)
  | false =>
    rw [if_neg (by simp), w_skip]
    exact h0 rfl
theorem sq_get {gm : D → En → Option En} (h : EvD m e d) (hg : gm d e = some e1) (q : wS rest e1 Q) : wS (sSeq (sGet gm m) rest) e Q := by
  rw [w_seq, w_get]
  refine h.mono ?_
  rintro x e2 ⟨rfl, _, q2⟩
  refine q2 _ ?_
  rw [hg]
  exact q
theorem sq_setV (h : EvV m e d) (hs : setSl i (.fz d) e = some e1) (q : wS rest e1 Q) : wS (sSeq (sSet i m) rest) e Q := by
  rw [w_seq]
  exact ws_setV h hs q
theorem sq_setN (h : EvN m e d) (hs : setSl i (.ow d) e = some e1) (q : wS rest e1 Q) : wS (sSeq (sSet i m) rest) e Q := by
  rw [w_seq]
  exact ws_setN h hs q
theorem sq_ret (h : EvV m e d) (q : Q.rt (.v d) e) : wS (sSeq (sRet m) rest) e Q := by
  rw [w_seq]
  exact ws_ret h q
theorem sq_retN (h : EvN m e d) (q : Q.rt (.nw d) e) : wS (sSeq (sRet m) rest) e Q := by
  rw [w_seq, w_retS]
  refine h.mono ?_
  rintro x e1 ⟨rfl, rfl⟩
  rw [wRet_nw]
  exact q
theorem sq_if {t : Mo Bool} {b : Bool} {s1 s2 : So} (h : EvB t e b) (h1 : b = true → wS (sSeq s1 rest) e Q) (h0 : b = false → wS (sSeq s2 rest) e Q) : wS (sSeq (sIf t s1 s2) rest) e Q := by
  rw [w_seq]
  refine ws_if h ?_
  cases b with
  | true =>
    rw [if_pos rfl]
    have := h1 rfl
    rwa [w_seq] at this
  | false =>
    rw [if_neg (by simp)]
    have := h0 rfl
    rwa [w_seq] at this
theorem sq_skip (q : wS rest e Q) : wS (sSeq sSkip rest) e Q := by
  rw [w_seq, w_skip]
  exact q
theorem sq_asc {s1 s2 : So} (q : wS (sSeq s1 (sSeq s2 rest)) e Q) : wS (sSeq (sSeq s1 s2) rest) e Q := by
  rw [w_seq, w_seq]
  rw [w_seq] at q
  refine q.mono (fun e h => ?_) (fun _ _ h => h) (fun _ h => h) fun _ h => h
  have h' : wS (sSeq s2 rest) e Q := h
  rw [w_seq] at h'
  exact h'
theorem sq_setC {r : En} {c : D} (hc : CupOk c) (h : EC m r fun x => ∃ s r', ((∃ d, x = .v d ∧ s = .fz d) ∨ ∃ d, x = .nw d ∧ s = .ow d) ∧ (∀ c, setSl i s (.bo c :: r) = some (.bo c :: r')) ∧ ∀ c, CupOk c → wS rest (.bo c :: r') Q) : wS (sSeq (sSet i m) rest) (.bo c :: r) Q := by
  rw [w_seq]
  exact ws_setC hc h
theorem sq_getC {r : En} {c : D} {gm : D → En → Option En} (hc : CupOk c) (h : EC m r fun x => ∃ d r', Vst r x d ∧ (∀ c, gm d (.bo c :: r) = some (.bo c :: r')) ∧ ∀ c, CupOk c → wS rest (.bo c :: r') Q) : wS (sSeq (sGet gm m) rest) (.bo c :: r) Q := by
  rw [w_seq, w_get]
  refine (h c hc).mono ?_
  rintro x e1 ⟨c1, hc1, rfl, d, r', hd, hg, q⟩
  refine (hd c1).2 _ ?_
  rw [hg]
  exact q c1 hc1
theorem sq_parC {r : En} {c : D} {is : List Nat} {mas : Mo (List Vx)} (hc : CupOk c) (h : ECL mas r fun xs => ∃ r', (∀ c, putSl is xs (.bo c :: r) = some (.bo c :: r')) ∧ ∀ c, CupOk c → wS rest (.bo c :: r') Q) : wS (sSeq (sPar is mas) rest) (.bo c :: r) Q := by
  rw [w_seq, w_par]
  refine (h c hc).mono ?_
  rintro x e1 ⟨c1, hc1, rfl, r', hg, q⟩
  rw [hg]
  exact q c1 hc1
theorem sq_retC {r : En} {c : D} (hc : CupOk c) (h : EC m r fun x => x.isP = false ∧ ∀ c, CupOk c → Q.rt x (.bo c :: r)) : wS (sSeq (sRet m) rest) (.bo c :: r) Q := by
  rw [w_seq]
  exact ws_retC hc h
end
theorem roll_drw {f : Fn} (h : RollOk f) {n : Int} (h0 : 0 < n) (h1 : n < 2 ^ 29) : Drw f [.int n] fun x => ∃ z : Int, x = .v (.int z) ∧ 0 ≤ z ∧ z < n := fun c hc => (h c hc n h0 h1).mono fun x o ⟨r, c', h1, h2, h3, h4, h5⟩ => ⟨c', h4, h5, by rw [h1]; rfl, r, h1, h2, h3⟩
theorem some_drw {f : Fn} (h : SomeOk f) {t : D} {ds : List D} (h0 : SeqD t ds) (h1 : ds ≠ []) (h2 : ds.length ≤ 1000) : Drw f [t] fun x => ∃ d, x = .v d ∧ d ∈ ds := fun c hc => (h c hc t ds h0 h1 h2).mono fun x o ⟨d, c', h1, h2, h3, h4⟩ => ⟨c', h3, h4, by rw [h1]; rfl, d, h1, h2⟩
end Fw
set_option Elab.async false
set_option linter.all false
set_option maxRecDepth 100000
set_option maxHeartbeats 400000
/-! Fw35: draws in tests, walks and comprehensions. -/
namespace Fw
open PySem PySem.Spec PyProof.Rows L2
section
variable {r : En} {d : D} {i n k j : Nat} {m ma mb : Mo Vx} {t : Mo Bool} {mi : Mo (List D)}
def ECB (t : Mo Bool) (r : En) (P : Bool → Prop) : Prop := ∀ c, CupOk c → wM t (.bo c :: r) fun b e1 => ∃ c', CupOk c' ∧ e1 = .bo c' :: r ∧ P b
def ECI (mi : Mo (List D)) (r : En) (P : List D → Prop) : Prop := ∀ c, CupOk c → wM mi (.bo c :: r) fun ds e1 => ∃ c', CupOk c' ∧ e1 = .bo c' :: r ∧ P ds
theorem ecb_tst {P : Bool → Prop} (h : EC m r fun x => ∃ b, Vst r x (.bool b) ∧ P b) : ECB (mTst m) r P := fun c hc => by
  rw [w_tst]
  refine (h c hc).mono ?_
  rintro x e1 ⟨c1, hc1, rfl, b, hb, p⟩
  rw [(hb c1).1, wB_some]
  exact ⟨c1, hc1, rfl, p⟩
theorem ecb_p {P : Bool → Prop} {b : Bool} (h : ∀ c, EvB t (.bo c :: r) b) (p : P b) : ECB t r P := fun c hc => (h c).mono fun x e1 ⟨h1, h2⟩ => ⟨c, hc, h1, h2 ▸ p⟩
theorem ec_if {P : Vx → Prop} (h : ECB t r fun b => if b = true then EC ma r P else EC mb r P) : EC (mIf t ma mb) r P := fun c hc => by
  rw [w_if]
  refine (h c hc).mono ?_
  rintro b e1 ⟨c1, hc1, rfl, q⟩
  cases b with
  | true =>
    rw [if_pos rfl] at q ⊢
    exact q c1 hc1
  | false =>
    rw [if_neg (by simp)] at q ⊢
    exact q c1 hc1
theorem eci_it {P : List D → Prop} (h : EC m r fun x => ∃ d ds, Vst r x d ∧ itD d = some ds ∧ P ds) : ECI (mIt m) r P := fun c hc => by
  rw [w_it]
  refine (h c hc).mono ?_
  rintro x e1 ⟨c1, hc1, rfl, d, ds, hd, hi, p⟩
  refine (hd c1).2 _ ?_
  rw [hi, wIt_some]
  exact ⟨c1, hc1, rfl, p⟩
theorem eci_rng {P : List D → Prop} (h : EC m r fun x => ∃ (z : Int) (n : Nat), Vst r x (.int z) ∧ z = n ∧ n < 2 ^ 62 ∧ P (rngD 0 n)) : ECI (mRng1 (mCons m mNil)) r P := fun c hc => by
  unfold mRng1
  rw [w_itA, w_cons]
  refine (h c hc).mono ?_
  rintro x e1 ⟨c1, hc1, rfl, z, n, hd, hz, hn, p⟩
  have h1 := itR1_nat hn
  rw [← hz] at h1
  rw [w_nil, ds_cons, (hd c1).1, ds_nil]
  show wIt (itR1 [.int z]) _ _
  rw [h1, wIt_some]
  exact ⟨c1, hc1, rfl, p⟩
theorem eci_enum {P : List D → Prop} (h : EC m r fun x => ∃ d ds, Vst r x d ∧ itD d = some ds ∧ P (enumD 0 ds)) : ECI (mEnum m) r P := fun c hc => by
  rw [w_enum, w_cons]
  refine (h c hc).mono ?_
  rintro x e1 ⟨c1, hc1, rfl, d, ds, hd, hi, p⟩
  rw [w_nil, w_vals_cons]
  refine (hd c1).2 _ ?_
  rw [w_vals_nil, wEnm_one, hi, Option.map_some, wIt_some]
  exact ⟨c1, hc1, rfl, p⟩
/-- a comprehension whose items are drawn -/
theorem ec_lcd {vs : List Nat} {gm : D → En → Option En} {P : Vx → Prop} (h : ECI mi r fun ds => ds.length ≤ 1000 ∧ (∀ c, ownOk (.bo c :: r) vs = true) ∧ ∃ (R : Nat → D → Prop) (r0 : En), (∀ c, wipeE (.bo c :: r) vs = .bo c :: r0) ∧ (∀ c c', restE (.bo c :: r) (.bo c' :: r0) vs = .bo c' :: r) ∧
      (∀ i d, ds[i]? = some d → ∃ r1, (∀ c, gm d (.bo c :: r0) = some (.bo c :: r1)) ∧ (∀ c, wipeE (.bo c :: r1) vs = .bo c :: r0) ∧ EC m r1 fun x => ∃ y, Vst r1 x y ∧ R i y) ∧
      ∀ ys : List D, ys.length = ds.length → (∀ i y, ys[i]? = some y → R i y) → P (.nw (.list ys))) : EC (mLc vs gm mi (mRet true) m) r P := fun c hc => by
  refine lc_inv ((h c hc).mono ?_)
  rintro ds e1 ⟨c1, hc1, rfl, hl, ho, R, r0, hw, hr, hb, hn⟩
  refine ⟨ho _, fun i acc e => ∃ c', CupOk c' ∧ e = .bo c' :: r0 ∧ acc.length = i ∧ ∀ j y, acc[j]? = some y → R j y, ⟨c1, hc1, hw _, rfl, fun j y hy => by simp at hy⟩, ?_, ?_⟩
  · rintro i d acc e hd ⟨c2, hc2, rfl, hal, hR⟩
    obtain ⟨r1, h1, h2, h3⟩ := hb i d hd
    refine ⟨_, h1 c2, ?_⟩
    rw [w_ret, if_pos rfl]
    refine (h3 c2 hc2).mono ?_
    rintro x e4 ⟨c3, hc3, rfl, y, hy, q⟩
    have hi : i < ds.length := (List.getElem?_eq_some_iff.mp hd).1
    refine (hy c3).2 _ ⟨by rw [sizeLine_eq]; omega, c3, hc3, h2 _, by simp [hal], fun j z hz => ?_⟩
    rcases Nat.lt_trichotomy j acc.length with hj | hj | hj
    · rw [List.getElem?_append_left hj] at hz
      exact hR j z hz
    · subst hj
      rw [List.getElem?_append_right (Nat.le_refl _), Nat.sub_self] at hz
      injection hz with hz
      subst hz
      rw [hal]
      exact q
    · rw [List.getElem?_eq_none (by simp; omega)] at hz
      cases hz
  · rintro acc e ⟨c2, hc2, rfl, hal, hR⟩
    exact ⟨c2, hc2, hr _ _, hn acc hal hR⟩
/-- a comprehension that maps, drawing only ahead -/
theorem ec_lcm {vs : List Nat} {gm : D → En → Option En} {P : Vx → Prop} (h : ECI mi r fun ds => ds.length ≤ 1000 ∧ (∀ c, ownOk (.bo c :: r) vs = true) ∧ ∃ (g : D → D) (r0 : En), (∀ c, wipeE (.bo c :: r) vs = .bo c :: r0) ∧ (∀ c c', restE (.bo c :: r) (.bo c' :: r0) vs = .bo c' :: r) ∧
      (∀ d, d ∈ ds → ∃ r1, (∀ c, gm d (.bo c :: r0) = some (.bo c :: r1)) ∧ (∀ c, wipeE (.bo c :: r1) vs = .bo c :: r0) ∧ EC m r1 fun x => Vst r1 x (g d)) ∧ P (.nw (.list (ds.map g)))) : EC (mLc vs gm mi (mRet true) m) r P := by
  refine ec_lcd ?_
  intro c hc
  refine (h c hc).mono ?_
  rintro ds e1 ⟨c1, hc1, rfl, hl, ho, g, r0, hw, hr, hb, hp⟩
  refine ⟨c1, hc1, rfl, hl, ho, fun i y => ∃ d, ds[i]? = some d ∧ y = g d, r0, hw, hr, fun i d hd => ?_, fun ys h1 h2 => ?_⟩
  · obtain ⟨r1, q1, q2, q3⟩ := hb d (List.mem_of_getElem? hd)
    exact ⟨r1, q1, q2, q3.mono fun x hx => ⟨g d, hx, d, hd, rfl⟩⟩
  · have : ys = ds.map g := by
      refine List.ext_getElem (by rw [List.length_map, h1]) fun i g1 g2 => ?_
      obtain ⟨d, e1, e2⟩ := h2 i ys[i] (List.getElem?_eq_getElem g1)
      rw [List.getElem_map, e2]
      congr 1
      have := List.getElem?_eq_some_iff.mp e1
      exact this.2.symm
    rw [this]
    exact hp
/-- reads as d, a place of its own perhaps -/
def Rds (m : Mo Vx) (r : En) (d : D) : Prop := ∀ c, wM m (.bo c :: r) fun x e1 => e1 = .bo c :: r ∧ ∀ c', x.d (.bo c' :: r) = some d
theorem rds_ow (h : r[i]? = some (.ow d)) : Rds (mVar (i + 1)) r d := fun c => by
  rw [w_var, List.getElem?_cons_succ, h]
  exact ⟨rfl, fun c' => by rw [d_pl, List.getElem?_cons_succ, h]; rfl⟩
theorem rds_fz (h : r[i]? = some (.fz d)) : Rds (mVar (i + 1)) r d := fun c => by
  rw [w_var, List.getElem?_cons_succ, h]
  exact ⟨rfl, fun c' => rfl⟩
theorem rds_v (h : ∀ c, EvV m (.bo c :: r) d) : Rds m r d := fun c => (h c).mono fun x e1 ⟨h1, h2⟩ => ⟨h1, fun _ => h2 ▸ rfl⟩
theorem rds_n (h : ∀ c, EvN m (.bo c :: r) d) : Rds m r d := fun c => (h c).mono fun x e1 ⟨h1, h2⟩ => ⟨h1, fun _ => h2 ▸ rfl⟩
theorem ec_opr {P : Vx → Prop} {f : D → D → Option Vx} {a : D} (ha : Rds ma r a) (h : EC mb r fun y => ∃ b, Vst r y b ∧ ∃ z, f a b = some z ∧ P z) : EC (mOp f ma mb) r P := fun c hc => by
  rw [w_op]
  refine (ha c).mono ?_
  rintro x e1 ⟨rfl, hx⟩
  refine (h c hc).mono ?_
  rintro y e2 ⟨c2, hc2, rfl, b, hb, z, hz, p⟩
  rw [hx c2, (hb c2).1, w2_some, hz, wO_some]
  exact ⟨c2, hc2, rfl, p⟩
theorem ev_opr {f : D → D → Option Vx} {a b z : D} (ha : Rds ma r a) (hb : Rds mb r b) (h : f a b = some (.v z)) (c : D) : EvV (mOp f ma mb) (.bo c :: r) z :=
  ev_opVr ((ha c).mono fun x e1 ⟨h1, h2⟩ => ⟨h1, h2 c⟩) ((hb c).mono fun x e1 ⟨h1, h2⟩ => ⟨h1, h2 c⟩) h
theorem ev_opn {f : D → D → Option Vx} {a b z : D} (ha : Rds ma r a) (hb : Rds mb r b) (h : f a b = some (.nw z)) (c : D) : EvN (mOp f ma mb) (.bo c :: r) z :=
  ev_opN ((ha c).mono fun x e1 ⟨h1, h2⟩ => ⟨h1, h2 c⟩) ((hb c).mono fun x e1 ⟨h1, h2⟩ => ⟨h1, h2 c⟩) h
theorem Rds.rd (h : Rds m r d) (c : D) : wM m (.bo c :: r) fun x e1 => e1 = .bo c :: r ∧ x.d (.bo c :: r) = some d := (h c).mono fun x e1 ⟨h1, h2⟩ => ⟨h1, h2 c⟩
theorem ev_cb1 {f : List D → Option Vx} {a z : D} (ha : Rds m r a) (h : f [a] = some (.v z)) (c : D) : EvV (mCb f (mCons m mNil)) (.bo c :: r) z := by
  unfold EvV
  rw [w_cb, w_cons]
  refine (ha c).mono ?_
  rintro x e1 ⟨rfl, hx⟩
  rw [w_nil, ds_cons, hx c, ds_nil]
  show wL f (some [a]) _ _
  rw [wL_some, h]
  exact ⟨rfl, rfl⟩
theorem ev_cb1n {f : List D → Option Vx} {a z : D} (ha : Rds m r a) (h : f [a] = some (.nw z)) (c : D) : EvN (mCb f (mCons m mNil)) (.bo c :: r) z := by
  unfold EvN
  rw [w_cb, w_cons]
  refine (ha c).mono ?_
  rintro x e1 ⟨rfl, hx⟩
  rw [w_nil, ds_cons, hx c, ds_nil]
  show wL f (some [a]) _ _
  rw [wL_some, h]
  exact ⟨rfl, rfl⟩
theorem sq_app {e : En} {Q : Ed} {rest : So} {xs : List D} (he : e[i]? = some (.ow (.list xs))) (h : EvD m e d) (hl : xs.length ≤ 1000) (q : wS rest (e.set i (.ow (.list (xs ++ [d])))) Q) : wS (sSeq (sDrop (mMut "list" i fAppend (mCons m mNil))) rest) e Q := by
  rw [w_seq, w_drop, w_mut, w_var, he, wVar_ow]
  refine ⟨by rw [d_pl, he]; rfl, ?_⟩
  rw [w_cons]
  refine h.mono ?_
  rintro x e1 ⟨rfl, _, q2⟩
  rw [w_nil, w_vals_cons]
  refine q2 _ ?_
  rw [w_vals_nil, he, wMu_ow', fAppend_l, if_pos (by rw [sizeLine_eq]; omega), wP_some]
  exact q
end
end Fw
set_option Elab.async false
set_option linter.all false
set_option maxRecDepth 100000
set_option maxHeartbeats 0
namespace L_k31
open PySem PySem.Spec PyProof.Rows L2 Fw
def top (i : Nat) : Stmt := PySem.Challenge.pw_earthorder_k31_whole_cores_judged.main.body.getD i (.Pass ⟨0, 0, 0, 0⟩)
def tb_LEAST : Tb := [("ring", .inl 3), ("arch", .inl 4), ("fork", .inl 3), ("comb", .inl 4), ("step", .inl 4)]
def tb_MOST : Tb := [("ring", .inl 20), ("arch", .inl 20), ("fork", .inl 20), ("comb", .inl 4), ("step", .inl 4)]
structure Ev (c : Ct) : Prop where
  d_29 : ∃ (f : Addr) (fd : FuncData), FunD c.K.K "_law_cup" "_law_cup" (defArgs (top 29)) (defBody (top 29)) (defScope (top 29)) [] [] f fd ∧ c.mg "_law_cup" = some (.ref f)
  d_35 : ∃ (f : Addr) (fd : FuncData), FunD c.K.K "_law_rows" "_law_rows" (defArgs (top 35)) (defBody (top 35)) (defScope (top 35)) [] [] f fd ∧ c.mg "_law_rows" = some (.ref f)
  d_36 : ∃ (f : Addr) (fd : FuncData), FunD c.K.K "_law_is_core" "_law_is_core" (defArgs (top 36)) (defBody (top 36)) (defScope (top 36)) [] [] f fd ∧ c.mg "_law_is_core" = some (.ref f)
  d_38 : ∃ (f : Addr) (fd : FuncData), FunD c.K.K "_law_judge" "_law_judge" (defArgs (top 38)) (defBody (top 38)) (defScope (top 38)) [] [] f fd ∧ c.mg "_law_judge" = some (.ref f)
  d_30 : ∃ (f : Addr) (fd : FuncData), FunD c.K.K "_law_roll" "_law_roll" (defArgs (top 30)) (defBody (top 30)) (defScope (top 30)) [] [] f fd ∧ c.mg "_law_roll" = some (.ref f)
  d_31 : ∃ (f : Addr) (fd : FuncData), FunD c.K.K "_law_some" "_law_some" (defArgs (top 31)) (defBody (top 31)) (defScope (top 31)) [] [] f fd ∧ c.mg "_law_some" = some (.ref f)
  d_40 : ∃ (f : Addr) (fd : FuncData), FunD c.K.K "_law_near" "_law_near" (defArgs (top 40)) (defBody (top 40)) (defScope (top 40)) [] [] f fd ∧ c.mg "_law_near" = some (.ref f)
  d_34 : ∃ (f : Addr) (fd : FuncData), FunD c.K.K "_law_mixed" "_law_mixed" (defArgs (top 34)) (defBody (top 34)) (defScope (top 34)) [] [] f fd ∧ c.mg "_law_mixed" = some (.ref f)
  d_33 : ∃ (f : Addr) (fd : FuncData), FunD c.K.K "_law_part" "_law_part" (defArgs (top 33)) (defBody (top 33)) (defScope (top 33)) [] [] f fd ∧ c.mg "_law_part" = some (.ref f)
  d_37 : ∃ (f : Addr) (fd : FuncData), FunD c.K.K "_law_planted" "_law_planted" (defArgs (top 37)) (defBody (top 37)) (defScope (top 37)) [] [] f fd ∧ c.mg "_law_planted" = some (.ref f)
  d_32 : ∃ (f : Addr) (fd : FuncData), FunD c.K.K "_law_same" "_law_same" (defArgs (top 32)) (defBody (top 32)) (defScope (top 32)) [] [] f fd ∧ c.mg "_law_same" = some (.ref f)
  d_39 : ∃ (f : Addr) (fd : FuncData), FunD c.K.K "_law_turned" "_law_turned" (defArgs (top 39)) (defBody (top 39)) (defScope (top 39)) [] [] f fd ∧ c.mg "_law_turned" = some (.ref f)
  d_24 : ∃ (f : Addr) (fd : FuncData), FunD c.K.K "are_unlike" "are_unlike" (defArgs (top 24)) (defBody (top 24)) (defScope (top 24)) [] [] f fd ∧ c.mg "are_unlike" = some (.ref f)
  d_11 : ∃ (f : Addr) (fd : FuncData), FunD c.K.K "is_tuple_of" "is_tuple_of" (defArgs (top 11)) (defBody (top 11)) (defScope (top 11)) [] [] f fd ∧ c.mg "is_tuple_of" = some (.ref f)
  d_22 : ∃ (f : Addr) (fd : FuncData), FunD c.K.K "pairs_to" "pairs_to" (defArgs (top 22)) (defBody (top 22)) (defScope (top 22)) [] [] f fd ∧ c.mg "pairs_to" = some (.ref f)
  d_23 : ∃ (f : Addr) (fd : FuncData), FunD c.K.K "rows_by" "rows_by" (defArgs (top 23)) (defBody (top 23)) (defScope (top 23)) [] [] f fd ∧ c.mg "rows_by" = some (.ref f)
  d_25 : ∃ (f : Addr) (fd : FuncData), FunD c.K.K "fits_core" "fits_core" (defArgs (top 25)) (defBody (top 25)) (defScope (top 25)) [] [] f fd ∧ c.mg "fits_core" = some (.ref f)
  d_9 : ∃ (f : Addr) (fd : FuncData), FunD c.K.K "fits_name" "fits_name" (defArgs (top 9)) (defBody (top 9)) (defScope (top 9)) [] [] f fd ∧ c.mg "fits_name" = some (.ref f)
  d_15 : ∃ (f : Addr) (fd : FuncData), FunD c.K.K "are_names" "are_names" (defArgs (top 15)) (defBody (top 15)) (defScope (top 15)) [] [] f fd ∧ c.mg "are_names" = some (.ref f)
  d_16 : ∃ (f : Addr) (fd : FuncData), FunD c.K.K "are_some" "are_some" (defArgs (top 16)) (defBody (top 16)) (defScope (top 16)) [] [] f fd ∧ c.mg "are_some" = some (.ref f)
  d_17 : ∃ (f : Addr) (fd : FuncData), FunD c.K.K "fits_table" "fits_table" (defArgs (top 17)) (defBody (top 17)) (defScope (top 17)) [] [] f fd ∧ c.mg "fits_table" = some (.ref f)
  d_18 : ∃ (f : Addr) (fd : FuncData), FunD c.K.K "need_table" "need_table" (defArgs (top 18)) (defBody (top 18)) (defScope (top 18)) [] [] f fd ∧ c.mg "need_table" = some (.ref f)
  d_27 : ∃ (f : Addr) (fd : FuncData), FunD c.K.K "is_core" "is_core" (defArgs (top 27)) (defBody (top 27)) (defScope (top 27)) [] [] f fd ∧ c.mg "is_core" = some (.ref f)
  d_41 : ∃ (f : Addr) (fd : FuncData), FunD c.K.K "_law_right" "_law_right" (defArgs (top 41)) (defBody (top 41)) (defScope (top 41)) [] [] f fd ∧ c.mg "_law_right" = some (.ref f)
  d_10 : ∃ (f : Addr) (fd : FuncData), FunD c.K.K "fits_whole" "fits_whole" (defArgs (top 10)) (defBody (top 10)) (defScope (top 10)) [] [] f fd ∧ c.mg "fits_whole" = some (.ref f)
  d_26 : ∃ (f : Addr) (fd : FuncData), FunD c.K.K "pattern" "pattern" (defArgs (top 26)) (defBody (top 26)) (defScope (top 26)) [] [] f fd ∧ c.mg "pattern" = some (.ref f)
  d_42 : ∃ (f : Addr) (fd : FuncData), FunD c.K.K "_law_written_right" "_law_written_right" (defArgs (top 42)) (defBody (top 42)) (defScope (top 42)) [] [] f fd ∧ c.mg "_law_written_right" = some (.ref f)
  d_43 : ∃ (f : Addr) (fd : FuncData), FunD c.K.K "law" "law" (defArgs (top 43)) (defBody (top 43)) (defScope (top 43)) [] [] f fd ∧ c.mg "law" = some (.ref f)
  f_abs : c.mg "abs" = none
  f_all : c.mg "all" = none
  f_bool : c.mg "bool" = none
  f_dict : c.mg "dict" = none
  f_enumerate : c.mg "enumerate" = none
  f_int : c.mg "int" = none
  f_isinstance : c.mg "isinstance" = none
  f_len : c.mg "len" = none
  f_list : c.mg "list" = none
  f_range : c.mg "range" = none
  f_set : c.mg "set" = none
  f_sorted : c.mg "sorted" = none
  f_str : c.mg "str" = none
  f_tuple : c.mg "tuple" = none
  f_zip : c.mg "zip" = none
  c_LETTERS : Gv c "LETTERS" (.str "abcdefghijklmnopqrstuvwxyz")
  c_LONGEST : Gv c "LONGEST" (.int 12)
  c_MOST_CONTEXTS : Gv c "MOST_CONTEXTS" (.int 40)
  c_MOST_KINDS : Gv c "MOST_KINDS" (.int 20)
  c_SIGNS : Gv c "SIGNS" (.str "abcdefghijklmnopqrstuvwxyz0123456789")
  c_LEAST : GvT c "LEAST" tb_LEAST
  c_MOST : GvT c "MOST" tb_MOST
/-! ### _law_cup -/
def N_29 : List Str := ["script", "cell"]
theorem nd_29 : N_29.Nodup := by decide +kernel
theorem fs_29 : FnScope N_29 ["script"] (defScope (top 29)) := ⟨rfl, rfl, rfl, nd_29, rfl, by decide +kernel, by decide +kernel⟩
def m_law_cup : So := (sSeq (sSet 1 (mCb dAbs (mCons (mOp dIx (mOp dAdd (mCb dList (mCons (mVar 0) mNil)) (mLst (mCons (mC (.int 0)) mNil))) (mC (.int 0))) mNil))) (sSeq (sRet (mLst (mCons (mIf (mTst (mOp (opB dGeX) (mVar 1) (mOp dPow (mC (.int 10)) (mC (.int 18))))) (mOp dDiv (mVar 1) (mC (.int 73))) (mC (.int 0))) (mCons (mOp dAdd (mOp dMod (mCb dInt (mCons (mOp dAdd (mOp dMul (mVar 1) (mC (.int 313))) (mC (.int 4027))) mNil)) (mC (.int 2077502087))) (mC (.int 181))) mNil)))) sSkip))
def f_law_cup : Fn := mDef 1 2 m_law_cup
theorem j_law_cup {c : Ct} (V : Ev c) {W : WX} : JSs c W N_29 (sxD (defScope (top 29))) 0 (defBody (top 29)) m_law_cup :=
  (jss_cons (js_set 1 nd_29 (j_abs V.f_abs (ja_cons (j_ix (j_add (j_list V.f_list (ja_cons (j_var 0) ja_nil)) (j_lst (ja_cons j_int ja_nil))) j_int) ja_nil))) (jss_cons (js_ret (j_lst (ja_cons (j_if (jt_cmp cx_ge (j_var 1) (j_pow j_int j_int)) (j_div (j_var 1) j_int) j_int) (ja_cons (j_add (j_mod (j_intT V.f_int (ja_cons (j_add (j_mul (j_var 1) j_int) j_int) ja_nil)) j_int) j_int) ja_nil)))) jss_nil))
theorem cal_law_cup {c : Ct} (V : Ev c) : Cal c 1 "_law_cup" f_law_cup := by
  obtain ⟨f, fd, F, hm⟩ := V.d_29
  exact cal_of (k := 0) (m := m_law_cup) (N := N_29) F hm fs_29 (F.bindsN fun _ _ _ _ _ _ us hl => match us, hl with | [_], _ => rfl) fun E => j_law_cup V
/-! ### _law_rows -/
def N_35 : List Str := ["word", "many", "pairs", "mid", "at"]
theorem nd_35 : N_35.Nodup := by decide +kernel
theorem fs_35 : FnScope N_35 ["word", "many"] (defScope (top 35)) := ⟨rfl, rfl, rfl, nd_35, rfl, by decide +kernel, by decide +kernel⟩
def m_law_rows : So := (sSeq (sSet 2 (mLc [4] (gNm 4) (mRng1 (mCons (mVar 1) mNil)) (mRet true) (mTup (mCons (mVar 4) (mCons (mOp dAdd (mVar 4) (mC (.int 1))) mNil))))) (sSeq (sIf (mTst (mOp (opB dEq) (mVar 0) (mC (.str "ring")))) (sSeq (sRet (mTup (mCons (mOp dAdd (mSl dSl (mVar 2) mNoPart (mPart (mOp dSub (mVar 1) (mC (.int 1))))) (mLst (mCons (mTup (mCons (mC (.int 0)) (mCons (mOp dSub (mVar 1) (mC (.int 1))) mNil))) mNil))) (mCons (mVar 1) mNil)))) sSkip) sSkip) (sSeq (sIf (mTst (mOp (opB dEq) (mVar 0) (mC (.str "arch")))) (sSeq (sSet 3 (mCb dLstRg (mCons (mC (.int 1)) (mCons (mOp dSub (mVar 1) (mC (.int 2))) mNil)))) (sSeq (sRet (mTup (mCons (mOp dAdd (mSl dSl (mVar 2) mNoPart (mPart (mOp dSub (mVar 1) (mC (.int 2))))) (mLst (mCons (mCb dTup (mCons (mOp dAdd (mOp dAdd (mLst (mCons (mC (.int 0)) mNil)) (mVar 3)) (mLst (mCons (mOp dSub (mVar 1) (mC (.int 1))) mNil))) mNil)) (mCons (mCb dTup (mCons (mOp dAdd (mVar 3) (mLst (mCons (mOp dSub (mVar 1) (mC (.int 2))) (mCons (mOp dSub (mVar 1) (mC (.int 1))) mNil)))) mNil)) mNil)))) (mCons (mVar 1) mNil)))) sSkip)) sSkip) (sSeq (sIf (mTst (mOp (opB dEq) (mVar 0) (mC (.str "fork")))) (sSeq (sRet (mTup (mCons (mOp dAdd (mSl dSl (mVar 2) mNoPart (mPart (mOp dSub (mVar 1) (mC (.int 1))))) (mLst (mCons (mCb dTup (mCons (mOp dAdd (mCb dLstRg (mCons (mC (.int 1)) (mCons (mOp dSub (mVar 1) (mC (.int 1))) mNil))) (mLst (mCons (mVar 1) mNil))) mNil)) mNil))) (mCons (mOp dAdd (mVar 1) (mC (.int 1))) mNil)))) sSkip) sSkip) (sSeq (sRet (mIf (mTst (mOp (opB dEq) (mVar 0) (mC (.str "comb")))) (mTup (mCons (mLst (mCons (mTup (mCons (mC (.int 0)) (mCons (mC (.int 1)) mNil))) (mCons (mTup (mCons (mC (.int 2)) (mCons (mC (.int 3)) mNil))) (mCons (mTup (mCons (mC (.int 4)) (mCons (mC (.int 5)) mNil))) (mCons (mTup (mCons (mC (.int 0)) (mCons (mC (.int 2)) (mCons (mC (.int 4)) mNil)))) mNil))))) (mCons (mC (.int 6)) mNil))) (mTup (mCons (mLst (mCons (mTup (mCons (mC (.int 0)) (mCons (mC (.int 1)) mNil))) (mCons (mTup (mCons (mC (.int 2)) (mCons (mC (.int 3)) mNil))) (mCons (mTup (mCons (mC (.int 0)) (mCons (mC (.int 1)) (mCons (mC (.int 2)) (mCons (mC (.int 3)) mNil))))) (mCons (mTup (mCons (mC (.int 0)) (mCons (mC (.int 2)) (mCons (mC (.int 4)) mNil)))) mNil))))) (mCons (mC (.int 5)) mNil))))) sSkip)))))
def f_law_rows : Fn := mDef 2 5 m_law_rows
theorem j_law_rows {c : Ct} (V : Ev c) {W : WX} : JSs c W N_35 (sxD (defScope (top 35))) 0 (defBody (top 35)) m_law_rows :=
  (jss_cons (js_setLc 2 [("at", 4)] nd_35 (ji_rng1 V.f_range (ja_cons (j_var 1) ja_nil)) (jct (jc_name 4 nd_35)) jts_nil (j_tup (ja_cons (j_var 4) (ja_cons (j_add (j_var 4) j_int) ja_nil)))) (jss_cons (js_if (jt_cmp cx_eq (j_var 0) j_str) (jss_cons (js_ret (j_tup (ja_cons (j_add (j_sl (j_var 2) jo_none (jo_some (j_sub (j_var 1) j_int))) (j_lst (ja_cons (j_tup (ja_cons j_int (ja_cons (j_sub (j_var 1) j_int) ja_nil))) ja_nil))) (ja_cons (j_var 1) ja_nil)))) jss_nil) jss_nil) (jss_cons (js_if (jt_cmp cx_eq (j_var 0) j_str) (jss_cons (js_set 3 nd_35 (j_listRange V.f_list V.f_range (ja_cons j_int (ja_cons (j_sub (j_var 1) j_int) ja_nil)))) (jss_cons (js_ret (j_tup (ja_cons (j_add (j_sl (j_var 2) jo_none (jo_some (j_sub (j_var 1) j_int))) (j_lst (ja_cons (j_tuple V.f_tuple (ja_cons (j_add (j_add (j_lst (ja_cons j_int ja_nil)) (j_var 3)) (j_lst (ja_cons (j_sub (j_var 1) j_int) ja_nil))) ja_nil)) (ja_cons (j_tuple V.f_tuple (ja_cons (j_add (j_var 3) (j_lst (ja_cons (j_sub (j_var 1) j_int) (ja_cons (j_sub (j_var 1) j_int) ja_nil)))) ja_nil)) ja_nil)))) (ja_cons (j_var 1) ja_nil)))) jss_nil)) jss_nil) (jss_cons (js_if (jt_cmp cx_eq (j_var 0) j_str) (jss_cons (js_ret (j_tup (ja_cons (j_add (j_sl (j_var 2) jo_none (jo_some (j_sub (j_var 1) j_int))) (j_lst (ja_cons (j_tuple V.f_tuple (ja_cons (j_add (j_listRange V.f_list V.f_range (ja_cons j_int (ja_cons (j_sub (j_var 1) j_int) ja_nil))) (j_lst (ja_cons (j_var 1) ja_nil))) ja_nil)) ja_nil))) (ja_cons (j_add (j_var 1) j_int) ja_nil)))) jss_nil) jss_nil) (jss_cons (js_ret (j_if (jt_cmp cx_eq (j_var 0) j_str) (j_tup (ja_cons (j_lst (ja_cons (j_tup (ja_cons j_int (ja_cons j_int ja_nil))) (ja_cons (j_tup (ja_cons j_int (ja_cons j_int ja_nil))) (ja_cons (j_tup (ja_cons j_int (ja_cons j_int ja_nil))) (ja_cons (j_tup (ja_cons j_int (ja_cons j_int (ja_cons j_int ja_nil)))) ja_nil))))) (ja_cons j_int ja_nil))) (j_tup (ja_cons (j_lst (ja_cons (j_tup (ja_cons j_int (ja_cons j_int ja_nil))) (ja_cons (j_tup (ja_cons j_int (ja_cons j_int ja_nil))) (ja_cons (j_tup (ja_cons j_int (ja_cons j_int (ja_cons j_int (ja_cons j_int ja_nil))))) (ja_cons (j_tup (ja_cons j_int (ja_cons j_int (ja_cons j_int ja_nil)))) ja_nil))))) (ja_cons j_int ja_nil))))) jss_nil)))))
theorem cal_law_rows {c : Ct} (V : Ev c) : Cal c 1 "_law_rows" f_law_rows := by
  obtain ⟨f, fd, F, hm⟩ := V.d_35
  exact cal_of (k := 0) (m := m_law_rows) (N := N_35) F hm fs_35 (F.bindsN fun _ _ _ _ _ _ us hl => match us, hl with | [_, _], _ => rfl) fun E => j_law_rows V
/-! ### _law_is_core -/
def N_36 : List Str := ["table", "value", "word", "kinds", "contexts", "rows", "due", "many", "kind", "name", "at"]
theorem nd_36 : N_36.Nodup := by decide +kernel
theorem fs_36 : FnScope N_36 ["table", "value"] (defScope (top 36)) := ⟨rfl, rfl, rfl, nd_36, rfl, by decide +kernel, by decide +kernel⟩
def m_law_is_core : So := (sSeq (sGet (gTpN 3 (gCn (gNm 2) (gCn (gNm 3) (gCn (gNm 4) gNl)))) (mVar 1)) (sSeq (sIf (mOr (mTst (mOp (opB dNin) (mVar 2) (mTup (mCons (mC (.str "ring")) (mCons (mC (.str "arch")) (mCons (mC (.str "fork")) (mCons (mC (.str "comb")) (mCons (mC (.str "step")) mNil)))))))) (mAnd (mTst (mOp (opB dIn) (mVar 2) (mTup (mCons (mC (.str "comb")) (mCons (mC (.str "step")) mNil))))) (mTst (mOp (opB dNe) (mCb dLen (mCons (mVar 3) mNil)) (mC (.int 4)))))) (sSeq (sRet (mC (.bool false))) sSkip) sSkip) (sSeq (sIf (mOr (mTst (mOp (opB dGtX) (mCb dLen (mCons (mVar 3) mNil)) (mC (.int 20)))) (mTst (mOp (opB dLtX) (mCb dLen (mCons (mVar 3) mNil)) (mIf (mTst (mOp (opB dIn) (mVar 2) (mTup (mCons (mC (.str "ring")) (mCons (mC (.str "fork")) mNil))))) (mC (.int 3)) (mC (.int 4)))))) (sSeq (sRet (mC (.bool false))) sSkip) sSkip) (sSeq (sSet 5 (mCb dDict (mCons (mCb dList (mCons (mOp dIx (mVar 0) (mC (.int 1))) mNil)) mNil))) (sSeq (sIf (mOr (mTst (mOp (opB dNe) (mLc [8] (gNm 8) (mIt (mVar 3)) (mTst (mOp (opB dNin) (mVar 8) (mVar 5))) (mVar 8)) (mLst mNil))) (mTst (mOp (opB dNe) (mLc [9] (gNm 9) (mIt (mVar 4)) (mTst (mOp (opB dNin) (mVar 9) (mOp dIx (mVar 0) (mC (.int 0))))) (mVar 9)) (mLst mNil)))) (sSeq (sRet (mC (.bool false))) sSkip) sSkip) (sSeq (sIf (mOr (mTst (mOp (opB dLtX) (mCb dLen (mCons (mUn dSortedSet (mVar 3)) mNil)) (mCb dLen (mCons (mVar 3) mNil)))) (mTst (mOp (opB dLtX) (mCb dLen (mCons (mUn dSortedSet (mVar 4)) mNil)) (mCb dLen (mCons (mVar 4) mNil))))) (sSeq (sRet (mC (.bool false))) sSkip) sSkip) (sSeq (sGet (gTpN 2 (gCn (gNm 6) (gCn (gNm 7) gNl))) (mCall [] f_law_rows (mCons (mVar 2) (mCons (mCb dLen (mCons (mVar 3) mNil)) mNil)))) (sSeq (sIf (mTst (mOp (opB dNe) (mCb dLen (mCons (mVar 4) mNil)) (mVar 7))) (sSeq (sRet (mC (.bool false))) sSkip) sSkip) (sSeq (sRet (mOp (opB dEq) (mLc [8] (gNm 8) (mIt (mVar 3)) (mRet true) (mCb dTup (mCons (mLc [10, 9] (gTpN 2 (gCn (gNm 10) (gCn (gNm 9) gNl))) (mEnum (mVar 4)) (mTst (mOp (opB dIn) (mVar 9) (mOp dIxK (mVar 5) (mVar 8)))) (mVar 10)) mNil))) (mVar 6))) sSkip)))))))))
def f_law_is_core : Fn := mDef 2 11 m_law_is_core
theorem j_law_is_core {c : Ct} (V : Ev c) {W : WX} : JSs c W N_36 (sxD (defScope (top 36))) 1 (defBody (top 36)) m_law_is_core :=
  (jss_cons (js_get (j_var 1) (jg_tup (jgs_cons (jg_name 2 nd_36) (jgs_cons (jg_name 3 nd_36) (jgs_cons (jg_name 4 nd_36) jgs_nil))))) (jss_cons (js_if (jt_w (jw_or (jt_cmp cx_nin (j_var 2) (j_tup (ja_cons j_str (ja_cons j_str (ja_cons j_str (ja_cons j_str (ja_cons j_str ja_nil))))))) (jw_or1 (jt_w (jw_and (jt_cmp cx_in (j_var 2) (j_tup (ja_cons j_str (ja_cons j_str ja_nil)))) (jw_and1 (jt_cmp cx_ne (j_len V.f_len (ja_cons (j_var 3) ja_nil)) j_int))))))) (jss_cons (js_ret j_bl) jss_nil) jss_nil) (jss_cons (js_if (jt_w (jw_or (jt_cmp cx_gt (j_len V.f_len (ja_cons (j_var 3) ja_nil)) j_int) (jw_or1 (jt_cmp cx_lt (j_len V.f_len (ja_cons (j_var 3) ja_nil)) (j_if (jt_cmp cx_in (j_var 2) (j_tup (ja_cons j_str (ja_cons j_str ja_nil)))) j_int j_int))))) (jss_cons (js_ret j_bl) jss_nil) jss_nil) (jss_cons (js_set 5 nd_36 (j_dict V.f_dict (ja_cons (j_list V.f_list (ja_cons (j_ix (j_var 0) j_int) ja_nil)) ja_nil))) (jss_cons (js_if (jt_w (jw_or (jt_cmp cx_ne (j_lc [("kind", 8)] nd_36 (ji_any (j_var 3)) (jct (jc_name 8 nd_36)) (jts_one (jt_cmp cx_nin (j_var 8) (j_var 5))) (j_var 8)) (j_lst ja_nil)) (jw_or1 (jt_cmp cx_ne (j_lc [("name", 9)] nd_36 (ji_any (j_var 4)) (jct (jc_name 9 nd_36)) (jts_one (jt_cmp cx_nin (j_var 9) (j_ix (j_var 0) j_int))) (j_var 9)) (j_lst ja_nil))))) (jss_cons (js_ret j_bl) jss_nil) jss_nil) (jss_cons (js_if (jt_w (jw_or (jt_cmp cx_lt (j_len V.f_len (ja_cons (j_sortedSet V.f_sorted V.f_set (j_var 3)) ja_nil)) (j_len V.f_len (ja_cons (j_var 3) ja_nil))) (jw_or1 (jt_cmp cx_lt (j_len V.f_len (ja_cons (j_sortedSet V.f_sorted V.f_set (j_var 4)) ja_nil)) (j_len V.f_len (ja_cons (j_var 4) ja_nil)))))) (jss_cons (js_ret j_bl) jss_nil) jss_nil) (jss_cons (js_get (j_call (cal_law_rows V) [] (by first | decide | omega) (ja_cons (j_var 2) (ja_cons (j_len V.f_len (ja_cons (j_var 3) ja_nil)) ja_nil))) (jg_tup (jgs_cons (jg_name 6 nd_36) (jgs_cons (jg_name 7 nd_36) jgs_nil)))) (jss_cons (js_if (jt_cmp cx_ne (j_len V.f_len (ja_cons (j_var 4) ja_nil)) (j_var 7)) (jss_cons (js_ret j_bl) jss_nil) jss_nil) (jss_cons (js_ret (j_cmp cx_eq (j_lc [("kind", 8)] nd_36 (ji_any (j_var 3)) (jct (jc_name 8 nd_36)) jts_nil (j_tuple V.f_tuple (ja_cons (j_lc [("at", 10), ("name", 9)] nd_36 (ji_enum V.f_enumerate (j_var 4)) (jct_tup (jcs_cons (jc_name 10 nd_36) (jcs_cons (jc_name 9 nd_36) jcs_nil))) (jts_one (jt_cmp cx_in (j_var 9) (j_ixK (j_var 5) (j_var 8)))) (j_var 10)) ja_nil))) (j_var 6))) jss_nil)))))))))
theorem cal_law_is_core {c : Ct} (V : Ev c) : Cal c 2 "_law_is_core" f_law_is_core := by
  obtain ⟨f, fd, F, hm⟩ := V.d_36
  exact cal_of (k := 1) (m := m_law_is_core) (N := N_36) F hm fs_36 (F.bindsN fun _ _ _ _ _ _ us hl => match us, hl with | [_, _], _ => rfl) fun E => j_law_is_core V
/-! ### _law_judge -/
def N_38 : List Str := ["table", "value", "some", "one"]
theorem nd_38 : N_38.Nodup := by decide +kernel
theorem fs_38 : FnScope N_38 ["table", "value"] (defScope (top 38)) := ⟨rfl, rfl, rfl, nd_38, rfl, by decide +kernel, by decide +kernel⟩
def m_law_judge : So := (sSeq (sIf (mOr (mNot (mTst (mUn (isiT "tuple") (mVar 1)))) (mOr (mTst (mOp (opB dNe) (mCb dLen (mCons (mVar 1) mNil)) (mC (.int 3)))) (mNot (mTst (mUn (isiT "str") (mOp dIx (mVar 1) (mC (.int 0)))))))) (sSeq (sRet (mC (.bool false))) sSkip) sSkip) (sSeq (sFor (gNm 2) (mIt (mSl dSl (mVar 1) (mPart (mC (.int 1))) mNoPart)) (sSeq (sIf (mOr (mNot (mTst (mUn (isiT "tuple") (mVar 2)))) (mTst (mOp (opB dNe) (mLc [3] (gNm 3) (mIt (mVar 2)) (mNot (mTst (mUn (isiT "str") (mVar 3)))) (mVar 3)) (mLst mNil)))) (sSeq (sRet (mC (.bool false))) sSkip) sSkip) sSkip)) (sSeq (sRet (mCall [] f_law_is_core (mCons (mVar 0) (mCons (mVar 1) mNil)))) sSkip)))
def f_law_judge : Fn := mDef 2 4 m_law_judge
theorem j_law_judge {c : Ct} (V : Ev c) {W : WX} : JSs c W N_38 (sxD (defScope (top 38))) 2 (defBody (top 38)) m_law_judge :=
  (jss_cons (js_if (jt_w (jw_or (jt_not (jt_val (j_isi V.f_isinstance V.f_tuple (j_var 1)))) (jw_or (jt_cmp cx_ne (j_len V.f_len (ja_cons (j_var 1) ja_nil)) j_int) (jw_or1 (jt_not (jt_val (j_isi V.f_isinstance V.f_str (j_ix (j_var 1) j_int)))))))) (jss_cons (js_ret j_bl) jss_nil) jss_nil) (jss_cons (js_for (ji_any (j_sl (j_var 1) (jo_some j_int) jo_none)) (jgt (jg_name 2 nd_38)) (jss_cons (js_if (jt_w (jw_or (jt_not (jt_val (j_isi V.f_isinstance V.f_tuple (j_var 2)))) (jw_or1 (jt_cmp cx_ne (j_lc [("one", 3)] nd_38 (ji_any (j_var 2)) (jct (jc_name 3 nd_38)) (jts_one (jt_not (jt_val (j_isi V.f_isinstance V.f_str (j_var 3))))) (j_var 3)) (j_lst ja_nil))))) (jss_cons (js_ret j_bl) jss_nil) jss_nil) jss_nil)) (jss_cons (js_ret (j_call (cal_law_is_core V) [] (by first | decide | omega) (ja_cons (j_var 0) (ja_cons (j_var 1) ja_nil)))) jss_nil)))
theorem cal_law_judge {c : Ct} (V : Ev c) : Cal c 3 "_law_judge" f_law_judge := by
  obtain ⟨f, fd, F, hm⟩ := V.d_38
  exact cal_of (k := 2) (m := m_law_judge) (N := N_38) F hm fs_38 (F.bindsN fun _ _ _ _ _ _ us hl => match us, hl with | [_, _], _ => rfl) fun E => j_law_judge V
/-! ### _law_roll -/
def N_30 : List Str := ["cup", "many", "found", "deep"]
theorem nd_30 : N_30.Nodup := by decide +kernel
theorem fs_30 : FnScope N_30 ["cup", "many"] (defScope (top 30)) := ⟨rfl, rfl, rfl, nd_30, rfl, by decide +kernel, by decide +kernel⟩
def m_law_roll : So := (sSeq (sIf (mTst (mOp (opB dGtX) (mOp dIx (mVar 0) (mC (.int 0))) (mC (.int 0)))) (sSeq (sSet 2 (mOp dMod (mCb dInt (mCons (mOp dIx (mVar 0) (mC (.int 0))) mNil)) (mVar 1))) (sSeq (sSetIx "list" 0 fSetL (mC (.int 0)) (mOp dDiv (mOp dIx (mVar 0) (mC (.int 0))) (mVar 1))) (sSeq (sRet (mVar 2)) sSkip))) sSkip) (sSeq (sSetIx "list" 0 fSetL (mC (.int 1)) (mOp dMod (mCb dInt (mCons (mOp dAdd (mOp dMul (mOp dIx (mVar 0) (mC (.int 1))) (mC (.int 30809))) (mC (.int 7879))) mNil)) (mC (.int 2147482951)))) (sSeq (sSet 3 (mOp dMod (mCb dInt (mCons (mOp dMul (mOp dIx (mVar 0) (mC (.int 1))) (mOp dAdd (mOp dIx (mVar 0) (mC (.int 1))) (mC (.int 241)))) mNil)) (mC (.int 2147483059)))) (sSeq (sRet (mOp dMod (mCb dInt (mCons (mOp dDiv (mVar 3) (mC (.int 821))) mNil)) (mVar 1))) sSkip))))
def f_law_roll : Fn := mDef 2 4 m_law_roll
theorem j_law_roll {c : Ct} (V : Ev c) {W : WX} : JSs c W N_30 (sxD (defScope (top 30))) 0 (defBody (top 30)) m_law_roll :=
  (jss_cons (js_if (jt_cmp cx_gt (j_ix (j_var 0) j_int) j_int) (jss_cons (js_set 2 nd_30 (j_mod (j_intT V.f_int (ja_cons (j_ix (j_var 0) j_int) ja_nil)) (j_var 1))) (jss_cons (js_setL 0 (j_div (j_ix (j_var 0) j_int) (j_var 1)) j_int) (jss_cons (js_ret (j_var 2)) jss_nil))) jss_nil) (jss_cons (js_setL 0 (j_mod (j_intT V.f_int (ja_cons (j_add (j_mul (j_ix (j_var 0) j_int) j_int) j_int) ja_nil)) j_int) j_int) (jss_cons (js_set 3 nd_30 (j_mod (j_intT V.f_int (ja_cons (j_mul (j_ix (j_var 0) j_int) (j_add (j_ix (j_var 0) j_int) j_int)) ja_nil)) j_int)) (jss_cons (js_ret (j_mod (j_intT V.f_int (ja_cons (j_div (j_var 3) j_int) ja_nil)) (j_var 1))) jss_nil))))
theorem cal_law_roll {c : Ct} (V : Ev c) : Cal c 1 "_law_roll" f_law_roll := by
  obtain ⟨f, fd, F, hm⟩ := V.d_30
  exact cal_of (k := 0) (m := m_law_roll) (N := N_30) F hm fs_30 (F.bindsN fun _ _ _ _ _ _ us hl => match us, hl with | [_, _], _ => rfl) fun E => j_law_roll V
/-! ### _law_some -/
def N_31 : List Str := ["cup", "things"]
theorem nd_31 : N_31.Nodup := by decide +kernel
theorem fs_31 : FnScope N_31 ["cup", "things"] (defScope (top 31)) := ⟨rfl, rfl, rfl, nd_31, rfl, by decide +kernel, by decide +kernel⟩
def m_law_some : So := (sSeq (sRet (mOp dIx (mVar 1) (mCall [true] f_law_roll (mCons (mVar 0) (mCons (mCb dLen (mCons (mVar 1) mNil)) mNil))))) sSkip)
def f_law_some : Fn := mDef 2 2 m_law_some
theorem j_law_some {c : Ct} (V : Ev c) {W : WX} : JSs c W N_31 (sxD (defScope (top 31))) 1 (defBody (top 31)) m_law_some :=
  (jss_cons (js_ret (j_ix (j_var 1) (j_call (cal_law_roll V) [true] (by first | decide | omega) (ja_cons (j_var 0) (ja_cons (j_len V.f_len (ja_cons (j_var 1) ja_nil)) ja_nil))))) jss_nil)
theorem cal_law_some {c : Ct} (V : Ev c) : Cal c 2 "_law_some" f_law_some := by
  obtain ⟨f, fd, F, hm⟩ := V.d_31
  exact cal_of (k := 1) (m := m_law_some) (N := N_31) F hm fs_31 (F.bindsN fun _ _ _ _ _ _ us hl => match us, hl with | [_, _], _ => rfl) fun E => j_law_some V
/-! ### _law_near -/
def N_40 : List Str := ["cup", "table", "core", "word", "kinds", "names", "at", "one", "other", "swapped", "kind", "name", "found", "row", "more"]
theorem nd_40 : N_40.Nodup := by decide +kernel
theorem fs_40 : FnScope N_40 ["cup", "table", "core"] (defScope (top 40)) := ⟨rfl, rfl, rfl, nd_40, rfl, by decide +kernel, by decide +kernel⟩
def m_law_near : So := (sSeq (sGet (gTpN 3 (gCn (gNm 3) (gCn (gNm 4) (gCn (gNm 5) gNl)))) (mVar 2)) (sSeq (sPar [6, 7, 8] (mConsF (mCall [true] f_law_roll (mCons (mVar 0) (mCons (mCb dLen (mCons (mVar 4) mNil)) mNil))) (mConsF (mCall [true] f_law_roll (mCons (mVar 0) (mCons (mCb dLen (mCons (mVar 5) mNil)) mNil))) (mConsF (mCall [true] f_law_roll (mCons (mVar 0) (mCons (mCb dLen (mCons (mVar 5) mNil)) mNil))) mNil)))) (sSeq (sPar [9, 10, 11] (mConsF (mCb dList (mCons (mVar 5) mNil)) (mConsF (mCall [true] f_law_some (mCons (mVar 0) (mCons (mLc [13] (gNm 13) (mIt (mOp dIx (mVar 1) (mC (.int 1)))) (mRet true) (mOp dIx (mVar 13) (mC (.int 0)))) mNil))) (mConsF (mCall [true] f_law_some (mCons (mVar 0) (mCons (mOp dIx (mVar 1) (mC (.int 0))) mNil))) mNil)))) (sSeq (sPar2Ix 9 fSetL (mVar 7) (mVar 8) (mCons (mOp dIx (mVar 5) (mVar 8)) (mCons (mOp dIx (mVar 5) (mVar 7)) mNil))) (sSeq (sSet 12 (mLc [14] (gNm 14) (mIt (mTup (mCons (mC (.str "ring")) (mCons (mC (.str "arch")) (mCons (mC (.str "fork")) (mCons (mC (.str "comb")) (mCons (mC (.str "step")) (mCons (mC (.str "Ring")) (mCons (mC (.str "")) (mCons (mC .none) (mCons (mC (.int 0)) mNil))))))))))) (mRet true) (mTup (mCons (mVar 14) (mCons (mVar 4) (mCons (mVar 5) mNil)))))) (sSeq (sSet 12 (mOp dAdd (mVar 12) (mLst (mCons (mTup (mCons (mVar 3) (mCons (mVar 4) (mCons (mCb dTup (mCons (mVar 9) mNil)) mNil)))) (mCons (mTup (mCons (mVar 3) (mCons (mRev (mVar 4)) (mCons (mVar 5) mNil)))) (mCons (mTup (mCons (mVar 3) (mCons (mVar 4) (mCons (mRev (mVar 5)) mNil)))) (mCons (mTup (mCons (mVar 3) (mCons (mVar 4) (mCons (mSl dSl (mVar 5) mNoPart (mPart (mUn dNeg (mC (.int 1))))) mNil)))) mNil))))))) (sSeq (sSet 12 (mOp dAdd (mVar 12) (mLst (mCons (mTup (mCons (mVar 3) (mCons (mOp dAdd (mOp dAdd (mSl dSl (mVar 4) mNoPart (mPart (mVar 6))) (mTup (mCons (mVar 10) mNil))) (mSl dSl (mVar 4) (mPart (mOp dAdd (mVar 6) (mC (.int 1)))) mNoPart)) (mCons (mVar 5) mNil)))) (mCons (mTup (mCons (mVar 3) (mCons (mVar 4) (mCons (mOp dAdd (mOp dAdd (mSl dSl (mVar 5) mNoPart (mPart (mVar 7))) (mTup (mCons (mVar 11) mNil))) (mSl dSl (mVar 5) (mPart (mOp dAdd (mVar 7) (mC (.int 1)))) mNoPart)) mNil)))) mNil))))) (sSeq (sSet 12 (mOp dAdd (mVar 12) (mLst (mCons (mTup (mCons (mVar 3) (mCons (mSl dSl (mVar 4) mNoPart (mPart (mUn dNeg (mC (.int 1))))) (mCons (mSl dSl (mVar 5) mNoPart (mPart (mUn dNeg (mC (.int 1))))) mNil)))) (mCons (mTup (mCons (mVar 3) (mCons (mCb dList (mCons (mVar 4) mNil)) (mCons (mVar 5) mNil)))) (mCons (mTup (mCons (mVar 3) (mCons (mVar 4) (mCons (mCb dList (mCons (mVar 5) mNil)) mNil)))) (mCons (mLst (mCons (mVar 3) (mCons (mVar 4) (mCons (mVar 5) mNil)))) (mCons (mOp dAdd (mVar 2) (mTup (mCons (mTup mNil) mNil))) mNil)))))))) (sSeq (sSet 12 (mOp dAdd (mVar 12) (mLst (mCons (mTup (mCons (mVar 3) (mCons (mVar 4) (mCons (mOp dAdd (mVar 5) (mTup (mCons (mVar 11) mNil))) mNil)))) (mCons (mTup (mCons (mVar 3) (mCons (mOp dAdd (mVar 4) (mTup (mCons (mVar 10) mNil))) (mCons (mOp dAdd (mVar 5) (mTup (mCons (mVar 11) mNil))) mNil)))) (mCons (mC .none) (mCons (mTup mNil) (mCons (mSl dSl (mVar 2) mNoPart (mPart (mC (.int 2)))) (mCons (mTup (mCons (mVar 3) (mCons (mVar 4) (mCons (mC .none) mNil)))) mNil))))))))) (sSeq (sRet (mOp dAdd (mVar 12) (mLst (mCons (mTup (mCons (mVar 3) (mCons (mOp dAdd (mOp dAdd (mSl dSl (mVar 4) mNoPart (mPart (mVar 6))) (mTup (mCons (mC .none) mNil))) (mSl dSl (mVar 4) (mPart (mOp dAdd (mVar 6) (mC (.int 1)))) mNoPart)) (mCons (mVar 5) mNil)))) (mCons (mTup (mCons (mVar 3) (mCons (mVar 4) (mCons (mOp dAdd (mOp dAdd (mSl dSl (mVar 5) mNoPart (mPart (mVar 7))) (mTup (mCons (mC (.str "zz")) mNil))) (mSl dSl (mVar 5) (mPart (mOp dAdd (mVar 7) (mC (.int 1)))) mNoPart)) mNil)))) (mCons (mTup (mCons (mVar 3) (mCons (mTup mNil) (mCons (mTup mNil) mNil)))) mNil)))))) sSkip))))))))))
def f_law_near : Fn := mDef 3 15 m_law_near
theorem j_law_near {c : Ct} (V : Ev c) {W : WX} : JSs c W N_40 (sxD (defScope (top 40))) 2 (defBody (top 40)) m_law_near :=
  (jss_cons (js_get (j_var 2) (jg_tup (jgs_cons (jg_name 3 nd_40) (jgs_cons (jg_name 4 nd_40) (jgs_cons (jg_name 5 nd_40) jgs_nil))))) (jss_cons (js_par3 6 7 8 nd_40 (ja_consF (j_call (cal_law_roll V) [true] (by first | decide | omega) (ja_cons (j_var 0) (ja_cons (j_len V.f_len (ja_cons (j_var 4) ja_nil)) ja_nil))) (ja_consF (j_call (cal_law_roll V) [true] (by first | decide | omega) (ja_cons (j_var 0) (ja_cons (j_len V.f_len (ja_cons (j_var 5) ja_nil)) ja_nil))) (ja_consF (j_call (cal_law_roll V) [true] (by first | decide | omega) (ja_cons (j_var 0) (ja_cons (j_len V.f_len (ja_cons (j_var 5) ja_nil)) ja_nil))) ja_nil)))) (jss_cons (js_par3 9 10 11 nd_40 (ja_consF (j_list V.f_list (ja_cons (j_var 5) ja_nil)) (ja_consF (j_call (cal_law_some V) [true] (by first | decide | omega) (ja_cons (j_var 0) (ja_cons (j_lc [("row", 13)] nd_40 (ji_any (j_ix (j_var 1) j_int)) (jct (jc_name 13 nd_40)) jts_nil (j_ix (j_var 13) j_int)) ja_nil))) (ja_consF (j_call (cal_law_some V) [true] (by first | decide | omega) (ja_cons (j_var 0) (ja_cons (j_ix (j_var 1) j_int) ja_nil))) ja_nil)))) (jss_cons (js_par2Ix 9 (ja_cons (j_ix (j_var 5) (j_var 8)) (ja_cons (j_ix (j_var 5) (j_var 7)) ja_nil)) (j_var 7) (j_var 8)) (jss_cons (js_setLc 12 [("more", 14)] nd_40 (ji_any (j_tup (ja_cons j_str (ja_cons j_str (ja_cons j_str (ja_cons j_str (ja_cons j_str (ja_cons j_str (ja_cons j_str (ja_cons j_non (ja_cons j_int ja_nil))))))))))) (jct (jc_name 14 nd_40)) jts_nil (j_tup (ja_cons (j_var 14) (ja_cons (j_var 4) (ja_cons (j_var 5) ja_nil))))) (jss_cons (js_set 12 nd_40 (j_add (j_var 12) (j_lst (ja_cons (j_tup (ja_cons (j_var 3) (ja_cons (j_var 4) (ja_cons (j_tuple V.f_tuple (ja_cons (j_var 9) ja_nil)) ja_nil)))) (ja_cons (j_tup (ja_cons (j_var 3) (ja_cons (j_rev (j_var 4)) (ja_cons (j_var 5) ja_nil)))) (ja_cons (j_tup (ja_cons (j_var 3) (ja_cons (j_var 4) (ja_cons (j_rev (j_var 5)) ja_nil)))) (ja_cons (j_tup (ja_cons (j_var 3) (ja_cons (j_var 4) (ja_cons (j_sl (j_var 5) jo_none (jo_some (j_neg j_int))) ja_nil)))) ja_nil))))))) (jss_cons (js_set 12 nd_40 (j_add (j_var 12) (j_lst (ja_cons (j_tup (ja_cons (j_var 3) (ja_cons (j_add (j_add (j_sl (j_var 4) jo_none (jo_some (j_var 6))) (j_tup (ja_cons (j_var 10) ja_nil))) (j_sl (j_var 4) (jo_some (j_add (j_var 6) j_int)) jo_none)) (ja_cons (j_var 5) ja_nil)))) (ja_cons (j_tup (ja_cons (j_var 3) (ja_cons (j_var 4) (ja_cons (j_add (j_add (j_sl (j_var 5) jo_none (jo_some (j_var 7))) (j_tup (ja_cons (j_var 11) ja_nil))) (j_sl (j_var 5) (jo_some (j_add (j_var 7) j_int)) jo_none)) ja_nil)))) ja_nil))))) (jss_cons (js_set 12 nd_40 (j_add (j_var 12) (j_lst (ja_cons (j_tup (ja_cons (j_var 3) (ja_cons (j_sl (j_var 4) jo_none (jo_some (j_neg j_int))) (ja_cons (j_sl (j_var 5) jo_none (jo_some (j_neg j_int))) ja_nil)))) (ja_cons (j_tup (ja_cons (j_var 3) (ja_cons (j_list V.f_list (ja_cons (j_var 4) ja_nil)) (ja_cons (j_var 5) ja_nil)))) (ja_cons (j_tup (ja_cons (j_var 3) (ja_cons (j_var 4) (ja_cons (j_list V.f_list (ja_cons (j_var 5) ja_nil)) ja_nil)))) (ja_cons (j_lst (ja_cons (j_var 3) (ja_cons (j_var 4) (ja_cons (j_var 5) ja_nil)))) (ja_cons (j_add (j_var 2) (j_tup (ja_cons (j_tup ja_nil) ja_nil))) ja_nil)))))))) (jss_cons (js_set 12 nd_40 (j_add (j_var 12) (j_lst (ja_cons (j_tup (ja_cons (j_var 3) (ja_cons (j_var 4) (ja_cons (j_add (j_var 5) (j_tup (ja_cons (j_var 11) ja_nil))) ja_nil)))) (ja_cons (j_tup (ja_cons (j_var 3) (ja_cons (j_add (j_var 4) (j_tup (ja_cons (j_var 10) ja_nil))) (ja_cons (j_add (j_var 5) (j_tup (ja_cons (j_var 11) ja_nil))) ja_nil)))) (ja_cons j_non (ja_cons (j_tup ja_nil) (ja_cons (j_sl (j_var 2) jo_none (jo_some j_int)) (ja_cons (j_tup (ja_cons (j_var 3) (ja_cons (j_var 4) (ja_cons j_non ja_nil)))) ja_nil))))))))) (jss_cons (js_ret (j_add (j_var 12) (j_lst (ja_cons (j_tup (ja_cons (j_var 3) (ja_cons (j_add (j_add (j_sl (j_var 4) jo_none (jo_some (j_var 6))) (j_tup (ja_cons j_non ja_nil))) (j_sl (j_var 4) (jo_some (j_add (j_var 6) j_int)) jo_none)) (ja_cons (j_var 5) ja_nil)))) (ja_cons (j_tup (ja_cons (j_var 3) (ja_cons (j_var 4) (ja_cons (j_add (j_add (j_sl (j_var 5) jo_none (jo_some (j_var 7))) (j_tup (ja_cons j_str ja_nil))) (j_sl (j_var 5) (jo_some (j_add (j_var 7) j_int)) jo_none)) ja_nil)))) (ja_cons (j_tup (ja_cons (j_var 3) (ja_cons (j_tup ja_nil) (ja_cons (j_tup ja_nil) ja_nil)))) ja_nil)))))) jss_nil))))))))))
theorem cal_law_near {c : Ct} (V : Ev c) : Cal c 3 "_law_near" f_law_near := by
  obtain ⟨f, fd, F, hm⟩ := V.d_40
  exact cal_of (k := 2) (m := m_law_near) (N := N_40) F hm fs_40 (F.bindsN fun _ _ _ _ _ _ us hl => match us, hl with | [_, _, _], _ => rfl) fun E => j_law_near V
/-! ### _law_mixed -/
def N_34 : List Str := ["cup", "things", "found", "thing"]
theorem nd_34 : N_34.Nodup := by decide +kernel
theorem fs_34 : FnScope N_34 ["cup", "things"] (defScope (top 34)) := ⟨rfl, rfl, rfl, nd_34, rfl, by decide +kernel, by decide +kernel⟩
def m_law_mixed : So := (sSeq (sSet 2 (mLst mNil)) (sSeq (sFor (gNm 3) (mIt (mVar 1)) (sSeq (sDrop (mMut "list" 2 fInsert (mCons (mCall [true] f_law_roll (mCons (mVar 0) (mCons (mOp dAdd (mCb dLen (mCons (mVar 2) mNil)) (mC (.int 1))) mNil))) (mCons (mVar 3) mNil)))) sSkip)) (sSeq (sRet (mVar 2)) sSkip)))
def f_law_mixed : Fn := mDef 2 4 m_law_mixed
theorem j_law_mixed {c : Ct} (V : Ev c) {W : WX} : JSs c W N_34 (sxD (defScope (top 34))) 1 (defBody (top 34)) m_law_mixed :=
  (jss_cons (js_set 2 nd_34 (j_lst ja_nil)) (jss_cons (js_for (ji_any (j_var 1)) (jgt (jg_name 3 nd_34)) (jss_cons (js_expr (j_insert 2 (ja_cons (j_call (cal_law_roll V) [true] (by first | decide | omega) (ja_cons (j_var 0) (ja_cons (j_add (j_len V.f_len (ja_cons (j_var 2) ja_nil)) j_int) ja_nil))) (ja_cons (j_var 3) ja_nil)))) jss_nil)) (jss_cons (js_ret (j_var 2)) jss_nil)))
theorem cal_law_mixed {c : Ct} (V : Ev c) : Cal c 2 "_law_mixed" f_law_mixed := by
  obtain ⟨f, fd, F, hm⟩ := V.d_34
  exact cal_of (k := 1) (m := m_law_mixed) (N := N_34) F hm fs_34 (F.bindsN fun _ _ _ _ _ _ us hl => match us, hl with | [_, _], _ => rfl) fun E => j_law_mixed V
/-! ### _law_part -/
def N_33 : List Str := ["cup", "things", "one"]
theorem nd_33 : N_33.Nodup := by decide +kernel
theorem fs_33 : FnScope N_33 ["cup", "things"] (defScope (top 33)) := ⟨rfl, rfl, rfl, nd_33, rfl, by decide +kernel, by decide +kernel⟩
def m_law_part : So := (sSeq (sRet (mCb dTup (mCons (mLc [2] (gNm 2) (mIt (mVar 1)) (mTst (mOp (opB dEq) (mCall [true] f_law_roll (mCons (mVar 0) (mCons (mC (.int 2)) mNil))) (mC (.int 0)))) (mVar 2)) mNil))) sSkip)
def f_law_part : Fn := mDef 2 3 m_law_part
theorem j_law_part {c : Ct} (V : Ev c) {W : WX} : JSs c W N_33 (sxD (defScope (top 33))) 1 (defBody (top 33)) m_law_part :=
  (jss_cons (js_ret (j_tuple V.f_tuple (ja_cons (j_lc [("one", 2)] nd_33 (ji_any (j_var 1)) (jct (jc_name 2 nd_33)) (jts_one (jt_cmp cx_eq (j_call (cal_law_roll V) [true] (by first | decide | omega) (ja_cons (j_var 0) (ja_cons j_int ja_nil))) j_int)) (j_var 2)) ja_nil))) jss_nil)
theorem cal_law_part {c : Ct} (V : Ev c) : Cal c 2 "_law_part" f_law_part := by
  obtain ⟨f, fd, F, hm⟩ := V.d_33
  exact cal_of (k := 1) (m := m_law_part) (N := N_33) F hm fs_33 (F.bindsN fun _ _ _ _ _ _ us hl => match us, hl with | [_, _], _ => rfl) fun E => j_law_part V
/-! ### _law_planted -/
def N_37 : List Str := ["cup", "word", "many", "due", "size", "more", "names", "kinds", "rows", "kind", "some", "table", "number", "at", "row"]
theorem nd_37 : N_37.Nodup := by decide +kernel
theorem fs_37 : FnScope N_37 ["cup", "word", "many"] (defScope (top 37)) := ⟨rfl, rfl, rfl, nd_37, rfl, by decide +kernel, by decide +kernel⟩
def m_law_planted : So := (sSeq (sGet (gTpN 2 (gCn (gNm 3) (gCn (gNm 4) gNl))) (mCall [] f_law_rows (mCons (mVar 1) (mCons (mVar 2) mNil)))) (sSeq (sSet 5 (mIf (mTst (mOp (opB dEq) (mCall [true] f_law_roll (mCons (mVar 0) (mCons (mC (.int 2)) mNil))) (mC (.int 0)))) (mCall [true] f_law_roll (mCons (mVar 0) (mCons (mOp dSub (mC (.int 41)) (mVar 4)) mNil))) (mC (.int 0)))) (sSeq (sSet 6 (mCall [true] f_law_mixed (mCons (mVar 0) (mCons (mLc [12] (gNm 12) (mRng1 (mCons (mOp dAdd (mVar 4) (mVar 5)) mNil)) (mRet true) (mOp dAdd (mC (.str "c")) (mCb dStr (mCons (mVar 12) mNil)))) mNil)))) (sSeq (sSet 7 (mCall [true] f_law_mixed (mCons (mVar 0) (mCons (mLc [12] (gNm 12) (mRng1 (mCons (mOp dAdd (mVar 2) (mCall [true] f_law_roll (mCons (mVar 0) (mCons (mOp dSub (mC (.int 21)) (mVar 2)) mNil)))) mNil)) (mRet true) (mOp dAdd (mC (.str "k")) (mCb dStr (mCons (mVar 12) mNil)))) mNil)))) (sSeq (sSet 8 (mLc [13, 14] (gTpN 2 (gCn (gNm 13) (gCn (gNm 14) gNl))) (mEnum (mVar 3)) (mRet true) (mTup (mCons (mOp dIx (mVar 7) (mVar 13)) (mCons (mOp dAdd (mLc [12] (gNm 12) (mIt (mVar 14)) (mRet true) (mOp dIx (mVar 6) (mVar 12))) (mCb dList (mCons (mCall [true] f_law_part (mCons (mVar 0) (mCons (mSl dSl (mVar 6) (mPart (mVar 4)) mNoPart) mNil))) mNil))) mNil))))) (sSeq (sFor (gNm 9) (mIt (mSl dSl (mVar 7) (mPart (mVar 2)) mNoPart)) (sSeq (sSet 10 (mCall [true] f_law_part (mCons (mVar 0) (mCons (mVar 6) mNil)))) (sSeq (sDrop (mMut "list" 8 fAppend (mCons (mTup (mCons (mVar 9) (mCons (mIf (mTst (mOp (opB dNe) (mVar 10) (mTup mNil))) (mVar 10) (mSl dSl (mVar 6) mNoPart (mPart (mC (.int 1))))) mNil))) mNil))) sSkip))) (sSeq (sSet 11 (mTup (mCons (mCb dTup (mCons (mCb dSorted (mCons (mVar 6) mNil)) mNil)) (mCons (mCb dTup (mCons (mCb dSorted (mCons (mLc [9, 14] (gTpN 2 (gCn (gNm 9) (gCn (gNm 14) gNl))) (mIt (mVar 8)) (mRet true) (mTup (mCons (mVar 9) (mCons (mCb dTup (mCons (mCb dSorted (mCons (mVar 14) mNil)) mNil)) mNil)))) mNil)) mNil)) mNil)))) (sSeq (sRet (mTup (mCons (mVar 11) (mCons (mTup (mCons (mVar 1) (mCons (mCb dTup (mCons (mSl dSl (mVar 7) mNoPart (mPart (mVar 2))) mNil)) (mCons (mCb dTup (mCons (mSl dSl (mVar 6) mNoPart (mPart (mVar 4))) mNil)) mNil)))) mNil)))) sSkip))))))))
def f_law_planted : Fn := mDef 3 15 m_law_planted
theorem j_law_planted {c : Ct} (V : Ev c) {W : WX} : JSs c W N_37 (sxD (defScope (top 37))) 2 (defBody (top 37)) m_law_planted :=
  (jss_cons (js_get (j_call (cal_law_rows V) [] (by first | decide | omega) (ja_cons (j_var 1) (ja_cons (j_var 2) ja_nil))) (jg_tup (jgs_cons (jg_name 3 nd_37) (jgs_cons (jg_name 4 nd_37) jgs_nil)))) (jss_cons (js_set 5 nd_37 (j_if (jt_cmp cx_eq (j_call (cal_law_roll V) [true] (by first | decide | omega) (ja_cons (j_var 0) (ja_cons j_int ja_nil))) j_int) (j_call (cal_law_roll V) [true] (by first | decide | omega) (ja_cons (j_var 0) (ja_cons (j_sub j_int (j_var 4)) ja_nil))) j_int)) (jss_cons (js_set 6 nd_37 (j_call (cal_law_mixed V) [true] (by first | decide | omega) (ja_cons (j_var 0) (ja_cons (j_lc [("number", 12)] nd_37 (ji_rng1 V.f_range (ja_cons (j_add (j_var 4) (j_var 5)) ja_nil)) (jct (jc_name 12 nd_37)) jts_nil (j_add j_str (j_strT V.f_str (ja_cons (j_var 12) ja_nil)))) ja_nil)))) (jss_cons (js_set 7 nd_37 (j_call (cal_law_mixed V) [true] (by first | decide | omega) (ja_cons (j_var 0) (ja_cons (j_lc [("number", 12)] nd_37 (ji_rng1 V.f_range (ja_cons (j_add (j_var 2) (j_call (cal_law_roll V) [true] (by first | decide | omega) (ja_cons (j_var 0) (ja_cons (j_sub j_int (j_var 2)) ja_nil)))) ja_nil)) (jct (jc_name 12 nd_37)) jts_nil (j_add j_str (j_strT V.f_str (ja_cons (j_var 12) ja_nil)))) ja_nil)))) (jss_cons (js_setLc 8 [("at", 13), ("row", 14)] nd_37 (ji_enum V.f_enumerate (j_var 3)) (jct_tup (jcs_cons (jc_name 13 nd_37) (jcs_cons (jc_name 14 nd_37) jcs_nil))) jts_nil (j_tup (ja_cons (j_ix (j_var 7) (j_var 13)) (ja_cons (j_add (j_lc [("number", 12)] nd_37 (ji_any (j_var 14)) (jct (jc_name 12 nd_37)) jts_nil (j_ix (j_var 6) (j_var 12))) (j_list V.f_list (ja_cons (j_call (cal_law_part V) [true] (by first | decide | omega) (ja_cons (j_var 0) (ja_cons (j_sl (j_var 6) (jo_some (j_var 4)) jo_none) ja_nil))) ja_nil))) ja_nil)))) (jss_cons (js_for (ji_any (j_sl (j_var 7) (jo_some (j_var 2)) jo_none)) (jgt (jg_name 9 nd_37)) (jss_cons (js_set 10 nd_37 (j_call (cal_law_part V) [true] (by first | decide | omega) (ja_cons (j_var 0) (ja_cons (j_var 6) ja_nil)))) (jss_cons (js_expr (j_append 8 (ja_cons (j_tup (ja_cons (j_var 9) (ja_cons (j_if (jt_cmp cx_ne (j_var 10) (j_tup ja_nil)) (j_var 10) (j_sl (j_var 6) jo_none (jo_some j_int))) ja_nil))) ja_nil))) jss_nil))) (jss_cons (js_set 11 nd_37 (j_tup (ja_cons (j_tuple V.f_tuple (ja_cons (j_sorted V.f_sorted (ja_cons (j_var 6) ja_nil)) ja_nil)) (ja_cons (j_tuple V.f_tuple (ja_cons (j_sorted V.f_sorted (ja_cons (j_lc [("kind", 9), ("row", 14)] nd_37 (ji_any (j_var 8)) (jct (jc_tup (jcs_cons (jc_name 9 nd_37) (jcs_cons (jc_name 14 nd_37) jcs_nil)))) jts_nil (j_tup (ja_cons (j_var 9) (ja_cons (j_tuple V.f_tuple (ja_cons (j_sorted V.f_sorted (ja_cons (j_var 14) ja_nil)) ja_nil)) ja_nil)))) ja_nil)) ja_nil)) ja_nil)))) (jss_cons (js_ret (j_tup (ja_cons (j_var 11) (ja_cons (j_tup (ja_cons (j_var 1) (ja_cons (j_tuple V.f_tuple (ja_cons (j_sl (j_var 7) jo_none (jo_some (j_var 2))) ja_nil)) (ja_cons (j_tuple V.f_tuple (ja_cons (j_sl (j_var 6) jo_none (jo_some (j_var 4))) ja_nil)) ja_nil)))) ja_nil)))) jss_nil))))))))
theorem cal_law_planted {c : Ct} (V : Ev c) : Cal c 3 "_law_planted" f_law_planted := by
  obtain ⟨f, fd, F, hm⟩ := V.d_37
  exact cal_of (k := 2) (m := m_law_planted) (N := N_37) F hm fs_37 (F.bindsN fun _ _ _ _ _ _ us hl => match us, hl with | [_, _, _], _ => rfl) fun E => j_law_planted V
/-! ### _law_same -/
def N_32 : List Str := ["told", "due", "at"]
theorem nd_32 : N_32.Nodup := by decide +kernel
theorem fs_32 : FnScope N_32 ["told", "due"] (defScope (top 32)) := ⟨rfl, rfl, rfl, nd_32, rfl, by decide +kernel, by decide +kernel⟩
def m_law_same (f : Nat → Fn) (n : Nat) : So := (sSeq (sIf (mTst (mUn (isiT "tuple") (mVar 1))) (sSeq (sIf (mOr (mNot (mTst (mUn (isiT "tuple") (mVar 0)))) (mTst (mOp (opB dNe) (mCb dLen (mCons (mVar 0) mNil)) (mCb dLen (mCons (mVar 1) mNil))))) (sSeq (sRet (mC (.bool false))) sSkip) sSkip) (sSeq (sRet (mCb dAll (mCons (mLc [2] (gNm 2) (mRng1 (mCons (mCb dLen (mCons (mVar 1) mNil)) mNil)) (mRet true) (mCall [] (f n) (mCons (mOp dIx (mVar 0) (mVar 2)) (mCons (mOp dIx (mVar 1) (mVar 2)) mNil)))) mNil))) sSkip)) sSkip) (sSeq (sIf (mTst (mOp (opB dIs) (mVar 1) (mC .none))) (sSeq (sRet (mOp (opB dIs) (mVar 0) (mC .none))) sSkip) sSkip) (sSeq (sIf (mTst (mUn (isiT "bool") (mVar 1))) (sSeq (sRet (mIf (mTst (mVar 1)) (mOp (opB dIs) (mVar 0) (mC (.bool true))) (mOp (opB dIs) (mVar 0) (mC (.bool false))))) sSkip) sSkip) (sSeq (sIf (mTst (mUn (isiT "int") (mVar 1))) (sSeq (sRet (mAndV (mUn (isiT "int") (mVar 0)) (mAndV (mNotV (mUn (isiT "bool") (mVar 0))) (mOp (opB dEq) (mCb dInt (mCons (mVar 0) mNil)) (mVar 1))))) sSkip) sSkip) (sSeq (sRet (mAndV (mUn (isiT "str") (mVar 0)) (mOp (opB dEq) (mCb dStr (mCons (mVar 0) mNil)) (mVar 1)))) sSkip)))))
def f_law_same : Nat → Fn
  | 0 => fun _ => .stuck
  | n + 1 => mDef 2 3 (m_law_same (fun _ => f_law_same n) n)
theorem cal_law_same {c : Ct} (V : Ev c) : ∀ n, Cal c (1 + n) "_law_same" (f_law_same n)
  | 0 => by
    obtain ⟨f, fd, F, hm⟩ := V.d_32
    exact cal_stuck F hm ["told", "due"] (F.bindsN fun _ _ _ _ _ _ us hl => match us, hl with | [_, _], _ => rfl)
  | n + 1 => by
    obtain ⟨f, fd, F, hm⟩ := V.d_32
    have ih := cal_law_same V n
    exact cal_of (k := 1 + n) (m := m_law_same (fun _ => f_law_same n) n) (N := N_32) F hm fs_32 (F.bindsN fun _ _ _ _ _ _ us hl => match us, hl with | [_, _], _ => rfl) fun E =>
      ((jss_cons (js_if (jt_val (j_isi V.f_isinstance V.f_tuple (j_var 1))) (jss_cons (js_if (jt_w (jw_or (jt_not (jt_val (j_isi V.f_isinstance V.f_tuple (j_var 0)))) (jw_or1 (jt_cmp cx_ne (j_len V.f_len (ja_cons (j_var 0) ja_nil)) (j_len V.f_len (ja_cons (j_var 1) ja_nil)))))) (jss_cons (js_ret j_bl) jss_nil) jss_nil) (jss_cons (js_ret (j_all V.f_all (ja_cons (j_lc [("at", 2)] nd_32 (ji_rng1 V.f_range (ja_cons (j_len V.f_len (ja_cons (j_var 1) ja_nil)) ja_nil)) (jct (jc_name 2 nd_32)) jts_nil (j_call (ih) [] (by first | decide | omega) (ja_cons (j_ix (j_var 0) (j_var 2)) (ja_cons (j_ix (j_var 1) (j_var 2)) ja_nil)))) ja_nil))) jss_nil)) jss_nil) (jss_cons (js_if (jt_cmp cx_is (j_var 1) j_non) (jss_cons (js_ret (j_cmp cx_is (j_var 0) j_non)) jss_nil) jss_nil) (jss_cons (js_if (jt_val (j_isi V.f_isinstance V.f_bool (j_var 1))) (jss_cons (js_ret (j_if (jt_val (j_var 1)) (j_cmp cx_is (j_var 0) j_bl) (j_cmp cx_is (j_var 0) j_bl))) jss_nil) jss_nil) (jss_cons (js_if (jt_val (j_isi V.f_isinstance V.f_int (j_var 1))) (jss_cons (js_ret (j_and (j_isi V.f_isinstance V.f_int (j_var 0)) (j_and (j_not (j_isi V.f_isinstance V.f_bool (j_var 0))) (j_one (j_cmp cx_eq (j_intT V.f_int (ja_cons (j_var 0) ja_nil)) (j_var 1)))))) jss_nil) jss_nil) (jss_cons (js_ret (j_and (j_isi V.f_isinstance V.f_str (j_var 0)) (j_one (j_cmp cx_eq (j_strT V.f_str (ja_cons (j_var 0) ja_nil)) (j_var 1))))) jss_nil))))))
/-! ### _law_turned -/
def N_39 : List Str := ["cup", "core", "word", "kinds", "names", "many", "at"]
theorem nd_39 : N_39.Nodup := by decide +kernel
theorem fs_39 : FnScope N_39 ["cup", "core"] (defScope (top 39)) := ⟨rfl, rfl, rfl, nd_39, rfl, by decide +kernel, by decide +kernel⟩
def m_law_turned : So := (sSeq (sGet (gTpN 3 (gCn (gNm 2) (gCn (gNm 3) (gCn (gNm 4) gNl)))) (mVar 1)) (sSeq (sSet 5 (mCb dLen (mCons (mVar 3) mNil))) (sSeq (sIf (mTst (mOp (opB dEq) (mVar 2) (mC (.str "ring")))) (sSeq (sSet 6 (mCall [true] f_law_roll (mCons (mVar 0) (mCons (mVar 5) mNil)))) (sSeq (sPar [3, 4] (mConsF (mOp dAdd (mSl dSl (mVar 3) (mPart (mVar 6)) mNoPart) (mSl dSl (mVar 3) mNoPart (mPart (mVar 6)))) (mConsF (mOp dAdd (mSl dSl (mVar 4) (mPart (mVar 6)) mNoPart) (mSl dSl (mVar 4) mNoPart (mPart (mVar 6)))) mNil))) (sSeq (sRet (mIf (mTst (mOp (opB dEq) (mCall [true] f_law_roll (mCons (mVar 0) (mCons (mC (.int 2)) mNil))) (mC (.int 0)))) (mTup (mCons (mVar 2) (mCons (mVar 3) (mCons (mVar 4) mNil)))) (mTup (mCons (mVar 2) (mCons (mOp dAdd (mOp dRevF (mVar 3) (mOp dSub (mVar 5) (mC (.int 2)))) (mSl dSl (mVar 3) (mPart (mOp dSub (mVar 5) (mC (.int 1)))) mNoPart)) (mCons (mRev (mVar 4)) mNil)))))) sSkip))) sSkip) (sSeq (sIf (mTst (mOp (opB dEq) (mVar 2) (mC (.str "arch")))) (sSeq (sRet (mTup (mCons (mVar 2) (mCons (mOp dAdd (mRev (mSl dSl (mVar 3) mNoPart (mPart (mOp dSub (mVar 5) (mC (.int 2)))))) (mTup (mCons (mOp dIx (mVar 3) (mOp dSub (mVar 5) (mC (.int 1)))) (mCons (mOp dIx (mVar 3) (mOp dSub (mVar 5) (mC (.int 2)))) mNil)))) (mCons (mOp dAdd (mRev (mSl dSl (mVar 4) mNoPart (mPart (mOp dSub (mVar 5) (mC (.int 1)))))) (mSl dSl (mVar 4) (mPart (mOp dSub (mVar 5) (mC (.int 1)))) mNoPart)) mNil))))) sSkip) sSkip) (sSeq (sIf (mTst (mOp (opB dEq) (mVar 2) (mC (.str "fork")))) (sSeq (sRet (mTup (mCons (mVar 2) (mCons (mOp dAdd (mRev (mSl dSl (mVar 3) mNoPart (mPart (mOp dSub (mVar 5) (mC (.int 1)))))) (mSl dSl (mVar 3) (mPart (mOp dSub (mVar 5) (mC (.int 1)))) mNoPart)) (mCons (mOp dAdd (mRev (mSl dSl (mVar 4) mNoPart (mPart (mVar 5)))) (mSl dSl (mVar 4) (mPart (mVar 5)) mNoPart)) mNil))))) sSkip) sSkip) (sSeq (sIf (mTst (mOp (opB dEq) (mVar 2) (mC (.str "step")))) (sSeq (sRet (mTup (mCons (mVar 2) (mCons (mOp dAdd (mTup (mCons (mOp dIx (mVar 3) (mC (.int 1))) (mCons (mOp dIx (mVar 3) (mC (.int 0))) mNil))) (mSl dSl (mVar 3) (mPart (mC (.int 2))) mNoPart)) (mCons (mOp dAdd (mOp dAdd (mSl dSl (mVar 4) (mPart (mC (.int 2))) (mPart (mC (.int 4)))) (mSl dSl (mVar 4) mNoPart (mPart (mC (.int 2))))) (mSl dSl (mVar 4) (mPart (mC (.int 4))) mNoPart)) mNil))))) sSkip) sSkip) (sSeq (sSet 6 (mOp dAdd (mC (.int 1)) (mCall [true] f_law_roll (mCons (mVar 0) (mCons (mC (.int 2)) mNil))))) (sSeq (sRet (mTup (mCons (mVar 2) (mCons (mOp dAdd (mOp dAdd (mSl dSl (mVar 3) (mPart (mVar 6)) (mPart (mC (.int 3)))) (mSl dSl (mVar 3) mNoPart (mPart (mVar 6)))) (mSl dSl (mVar 3) (mPart (mC (.int 3))) mNoPart)) (mCons (mOp dAdd (mSl dSl (mVar 4) (mPart (mOp dMul (mC (.int 2)) (mVar 6))) mNoPart) (mSl dSl (mVar 4) mNoPart (mPart (mOp dMul (mC (.int 2)) (mVar 6))))) mNil))))) sSkip))))))))
def f_law_turned : Fn := mDef 2 7 m_law_turned
theorem j_law_turned {c : Ct} (V : Ev c) {W : WX} : JSs c W N_39 (sxD (defScope (top 39))) 1 (defBody (top 39)) m_law_turned :=
  (jss_cons (js_get (j_var 1) (jg_tup (jgs_cons (jg_name 2 nd_39) (jgs_cons (jg_name 3 nd_39) (jgs_cons (jg_name 4 nd_39) jgs_nil))))) (jss_cons (js_set 5 nd_39 (j_len V.f_len (ja_cons (j_var 3) ja_nil))) (jss_cons (js_if (jt_cmp cx_eq (j_var 2) j_str) (jss_cons (js_set 6 nd_39 (j_call (cal_law_roll V) [true] (by first | decide | omega) (ja_cons (j_var 0) (ja_cons (j_var 5) ja_nil)))) (jss_cons (js_par 3 4 nd_39 (ja_consF (j_add (j_sl (j_var 3) (jo_some (j_var 6)) jo_none) (j_sl (j_var 3) jo_none (jo_some (j_var 6)))) (ja_consF (j_add (j_sl (j_var 4) (jo_some (j_var 6)) jo_none) (j_sl (j_var 4) jo_none (jo_some (j_var 6)))) ja_nil))) (jss_cons (js_ret (j_if (jt_cmp cx_eq (j_call (cal_law_roll V) [true] (by first | decide | omega) (ja_cons (j_var 0) (ja_cons j_int ja_nil))) j_int) (j_tup (ja_cons (j_var 2) (ja_cons (j_var 3) (ja_cons (j_var 4) ja_nil)))) (j_tup (ja_cons (j_var 2) (ja_cons (j_add (j_revF (j_var 3) (j_sub (j_var 5) j_int)) (j_sl (j_var 3) (jo_some (j_sub (j_var 5) j_int)) jo_none)) (ja_cons (j_rev (j_var 4)) ja_nil)))))) jss_nil))) jss_nil) (jss_cons (js_if (jt_cmp cx_eq (j_var 2) j_str) (jss_cons (js_ret (j_tup (ja_cons (j_var 2) (ja_cons (j_add (j_rev (j_sl (j_var 3) jo_none (jo_some (j_sub (j_var 5) j_int)))) (j_tup (ja_cons (j_ix (j_var 3) (j_sub (j_var 5) j_int)) (ja_cons (j_ix (j_var 3) (j_sub (j_var 5) j_int)) ja_nil)))) (ja_cons (j_add (j_rev (j_sl (j_var 4) jo_none (jo_some (j_sub (j_var 5) j_int)))) (j_sl (j_var 4) (jo_some (j_sub (j_var 5) j_int)) jo_none)) ja_nil))))) jss_nil) jss_nil) (jss_cons (js_if (jt_cmp cx_eq (j_var 2) j_str) (jss_cons (js_ret (j_tup (ja_cons (j_var 2) (ja_cons (j_add (j_rev (j_sl (j_var 3) jo_none (jo_some (j_sub (j_var 5) j_int)))) (j_sl (j_var 3) (jo_some (j_sub (j_var 5) j_int)) jo_none)) (ja_cons (j_add (j_rev (j_sl (j_var 4) jo_none (jo_some (j_var 5)))) (j_sl (j_var 4) (jo_some (j_var 5)) jo_none)) ja_nil))))) jss_nil) jss_nil) (jss_cons (js_if (jt_cmp cx_eq (j_var 2) j_str) (jss_cons (js_ret (j_tup (ja_cons (j_var 2) (ja_cons (j_add (j_tup (ja_cons (j_ix (j_var 3) j_int) (ja_cons (j_ix (j_var 3) j_int) ja_nil))) (j_sl (j_var 3) (jo_some j_int) jo_none)) (ja_cons (j_add (j_add (j_sl (j_var 4) (jo_some j_int) (jo_some j_int)) (j_sl (j_var 4) jo_none (jo_some j_int))) (j_sl (j_var 4) (jo_some j_int) jo_none)) ja_nil))))) jss_nil) jss_nil) (jss_cons (js_set 6 nd_39 (j_add j_int (j_call (cal_law_roll V) [true] (by first | decide | omega) (ja_cons (j_var 0) (ja_cons j_int ja_nil))))) (jss_cons (js_ret (j_tup (ja_cons (j_var 2) (ja_cons (j_add (j_add (j_sl (j_var 3) (jo_some (j_var 6)) (jo_some j_int)) (j_sl (j_var 3) jo_none (jo_some (j_var 6)))) (j_sl (j_var 3) (jo_some j_int) jo_none)) (ja_cons (j_add (j_sl (j_var 4) (jo_some (j_mul j_int (j_var 6))) jo_none) (j_sl (j_var 4) jo_none (jo_some (j_mul j_int (j_var 6))))) ja_nil))))) jss_nil))))))))
theorem cal_law_turned {c : Ct} (V : Ev c) : Cal c 2 "_law_turned" f_law_turned := by
  obtain ⟨f, fd, F, hm⟩ := V.d_39
  exact cal_of (k := 1) (m := m_law_turned) (N := N_39) F hm fs_39 (F.bindsN fun _ _ _ _ _ _ us hl => match us, hl with | [_, _], _ => rfl) fun E => j_law_turned V
/-! ### are_unlike -/
def N_24 : List Str := ["names", "value", "one"]
theorem nd_24 : N_24.Nodup := by decide +kernel
theorem fs_24 : FnScope N_24 ["names", "value"] (defScope (top 24)) := ⟨rfl, rfl, rfl, nd_24, rfl, by decide +kernel, by decide +kernel⟩
def m_are_unlike : So := (sSeq (sIf (mOr (mNot (mTst (mUn (isiT "tuple") (mVar 1)))) (mNot (mTst (mCb dAll (mCons (mLc [2] (gNm 2) (mIt (mVar 1)) (mRet true) (mAndV (mUn (isiT "str") (mVar 2)) (mOp (opB dIn) (mVar 2) (mVar 0)))) mNil))))) (sSeq (sRet (mC (.bool false))) sSkip) sSkip) (sSeq (sRet (mOp (opB dEq) (mUn dLenSet (mVar 1)) (mCb dLen (mCons (mVar 1) mNil)))) sSkip))
def f_are_unlike : Fn := mDef 2 3 m_are_unlike
theorem j_are_unlike {c : Ct} (V : Ev c) {W : WX} : JSs c W N_24 (sxD (defScope (top 24))) 0 (defBody (top 24)) m_are_unlike :=
  (jss_cons (js_if (jt_w (jw_or (jt_not (jt_val (j_isi V.f_isinstance V.f_tuple (j_var 1)))) (jw_or1 (jt_not (jt_val (j_all V.f_all (ja_cons (j_lc [("one", 2)] nd_24 (ji_any (j_var 1)) (jct (jc_name 2 nd_24)) jts_nil (j_and (j_isi V.f_isinstance V.f_str (j_var 2)) (j_one (j_cmp cx_in (j_var 2) (j_var 0))))) ja_nil))))))) (jss_cons (js_ret j_bl) jss_nil) jss_nil) (jss_cons (js_ret (j_cmp cx_eq (j_lenSet V.f_len V.f_set (j_var 1)) (j_len V.f_len (ja_cons (j_var 1) ja_nil)))) jss_nil))
theorem cal_are_unlike {c : Ct} (V : Ev c) : Cal c 1 "are_unlike" f_are_unlike := by
  obtain ⟨f, fd, F, hm⟩ := V.d_24
  exact cal_of (k := 0) (m := m_are_unlike) (N := N_24) F hm fs_24 (F.bindsN fun _ _ _ _ _ _ us hl => match us, hl with | [_, _], _ => rfl) fun E => j_are_unlike V
/-! ### is_tuple_of -/
def N_11 : List Str := ["value", "least", "most"]
theorem nd_11 : N_11.Nodup := by decide +kernel
theorem fs_11 : FnScope N_11 ["value", "least", "most"] (defScope (top 11)) := ⟨rfl, rfl, rfl, nd_11, rfl, by decide +kernel, by decide +kernel⟩
def m_is_tuple_of : So := (sSeq (sRet (mAndV (mUn (isiT "tuple") (mVar 0)) (mChain dLeX dLeX (mVar 1) (mCb dLen (mCons (mVar 0) mNil)) (mVar 2)))) sSkip)
def f_is_tuple_of : Fn := mDef 3 3 m_is_tuple_of
theorem j_is_tuple_of {c : Ct} (V : Ev c) {W : WX} : JSs c W N_11 (sxD (defScope (top 11))) 0 (defBody (top 11)) m_is_tuple_of :=
  (jss_cons (js_ret (j_and (j_isi V.f_isinstance V.f_tuple (j_var 0)) (j_one (j_chain cx_le cx_le (j_var 1) (j_len V.f_len (ja_cons (j_var 0) ja_nil)) (j_var 2))))) jss_nil)
theorem cal_is_tuple_of {c : Ct} (V : Ev c) : Cal c 1 "is_tuple_of" f_is_tuple_of := by
  obtain ⟨f, fd, F, hm⟩ := V.d_11
  exact cal_of (k := 0) (m := m_is_tuple_of) (N := N_11) F hm fs_11 (F.bindsN fun _ _ _ _ _ _ us hl => match us, hl with | [_, _, _], _ => rfl) fun E => j_is_tuple_of V
/-! ### pairs_to -/
def N_22 : List Str := ["last", "at"]
theorem nd_22 : N_22.Nodup := by decide +kernel
theorem fs_22 : FnScope N_22 ["last"] (defScope (top 22)) := ⟨rfl, rfl, rfl, nd_22, rfl, by decide +kernel, by decide +kernel⟩
def m_pairs_to : So := (sSeq (sRet (mLc [1] (gNm 1) (mRng1 (mCons (mVar 0) mNil)) (mRet true) (mTup (mCons (mVar 1) (mCons (mOp dAdd (mVar 1) (mC (.int 1))) mNil))))) sSkip)
def f_pairs_to : Fn := mDef 1 2 m_pairs_to
theorem j_pairs_to {c : Ct} (V : Ev c) {W : WX} : JSs c W N_22 (sxD (defScope (top 22))) 0 (defBody (top 22)) m_pairs_to :=
  (jss_cons (js_ret (j_lc [("at", 1)] nd_22 (ji_rng1 V.f_range (ja_cons (j_var 0) ja_nil)) (jct (jc_name 1 nd_22)) jts_nil (j_tup (ja_cons (j_var 1) (ja_cons (j_add (j_var 1) j_int) ja_nil))))) jss_nil)
theorem cal_pairs_to {c : Ct} (V : Ev c) : Cal c 1 "pairs_to" f_pairs_to := by
  obtain ⟨f, fd, F, hm⟩ := V.d_22
  exact cal_of (k := 0) (m := m_pairs_to) (N := N_22) F hm fs_22 (F.bindsN fun _ _ _ _ _ _ us hl => match us, hl with | [_], _ => rfl) fun E => j_pairs_to V
/-! ### rows_by -/
def N_23 : List Str := ["word", "many", "inner"]
theorem nd_23 : N_23.Nodup := by decide +kernel
theorem fs_23 : FnScope N_23 ["word", "many"] (defScope (top 23)) := ⟨rfl, rfl, rfl, nd_23, rfl, by decide +kernel, by decide +kernel⟩
def m_rows_by : So := (sSeq (sIf (mTst (mOp (opB dEq) (mVar 0) (mC (.str "ring")))) (sSeq (sRet (mTup (mCons (mOp dAdd (mCall [] f_pairs_to (mCons (mOp dSub (mVar 1) (mC (.int 1))) mNil)) (mLst (mCons (mTup (mCons (mC (.int 0)) (mCons (mOp dSub (mVar 1) (mC (.int 1))) mNil))) mNil))) (mCons (mVar 1) mNil)))) sSkip) sSkip) (sSeq (sIf (mTst (mOp (opB dEq) (mVar 0) (mC (.str "arch")))) (sSeq (sSet 2 (mCb dTupRg (mCons (mC (.int 1)) (mCons (mOp dSub (mVar 1) (mC (.int 2))) mNil)))) (sSeq (sRet (mTup (mCons (mOp dAdd (mCall [] f_pairs_to (mCons (mOp dSub (mVar 1) (mC (.int 2))) mNil)) (mLst (mCons (mOp dAdd (mOp dAdd (mTup (mCons (mC (.int 0)) mNil)) (mVar 2)) (mTup (mCons (mOp dSub (mVar 1) (mC (.int 1))) mNil))) (mCons (mOp dAdd (mVar 2) (mTup (mCons (mOp dSub (mVar 1) (mC (.int 2))) (mCons (mOp dSub (mVar 1) (mC (.int 1))) mNil)))) mNil)))) (mCons (mVar 1) mNil)))) sSkip)) sSkip) (sSeq (sIf (mTst (mOp (opB dEq) (mVar 0) (mC (.str "fork")))) (sSeq (sRet (mTup (mCons (mOp dAdd (mCall [] f_pairs_to (mCons (mOp dSub (mVar 1) (mC (.int 1))) mNil)) (mLst (mCons (mOp dAdd (mCb dTupRg (mCons (mC (.int 1)) (mCons (mOp dSub (mVar 1) (mC (.int 1))) mNil))) (mTup (mCons (mVar 1) mNil))) mNil))) (mCons (mOp dAdd (mVar 1) (mC (.int 1))) mNil)))) sSkip) sSkip) (sSeq (sIf (mTst (mOp (opB dEq) (mVar 0) (mC (.str "comb")))) (sSeq (sRet (mTup (mCons (mLst (mCons (mTup (mCons (mC (.int 0)) (mCons (mC (.int 1)) mNil))) (mCons (mTup (mCons (mC (.int 2)) (mCons (mC (.int 3)) mNil))) (mCons (mTup (mCons (mC (.int 4)) (mCons (mC (.int 5)) mNil))) (mCons (mTup (mCons (mC (.int 0)) (mCons (mC (.int 2)) (mCons (mC (.int 4)) mNil)))) mNil))))) (mCons (mC (.int 6)) mNil)))) sSkip) sSkip) (sSeq (sRet (mTup (mCons (mLst (mCons (mTup (mCons (mC (.int 0)) (mCons (mC (.int 1)) mNil))) (mCons (mTup (mCons (mC (.int 2)) (mCons (mC (.int 3)) mNil))) (mCons (mTup (mCons (mC (.int 0)) (mCons (mC (.int 1)) (mCons (mC (.int 2)) (mCons (mC (.int 3)) mNil))))) (mCons (mTup (mCons (mC (.int 0)) (mCons (mC (.int 2)) (mCons (mC (.int 4)) mNil)))) mNil))))) (mCons (mC (.int 5)) mNil)))) sSkip)))))
def f_rows_by : Fn := mDef 2 3 m_rows_by
theorem j_rows_by {c : Ct} (V : Ev c) {W : WX} : JSs c W N_23 (sxD (defScope (top 23))) 1 (defBody (top 23)) m_rows_by :=
  (jss_cons (js_if (jt_cmp cx_eq (j_var 0) j_str) (jss_cons (js_ret (j_tup (ja_cons (j_add (j_call (cal_pairs_to V) [] (by first | decide | omega) (ja_cons (j_sub (j_var 1) j_int) ja_nil)) (j_lst (ja_cons (j_tup (ja_cons j_int (ja_cons (j_sub (j_var 1) j_int) ja_nil))) ja_nil))) (ja_cons (j_var 1) ja_nil)))) jss_nil) jss_nil) (jss_cons (js_if (jt_cmp cx_eq (j_var 0) j_str) (jss_cons (js_set 2 nd_23 (j_tupleRange V.f_tuple V.f_range (ja_cons j_int (ja_cons (j_sub (j_var 1) j_int) ja_nil)))) (jss_cons (js_ret (j_tup (ja_cons (j_add (j_call (cal_pairs_to V) [] (by first | decide | omega) (ja_cons (j_sub (j_var 1) j_int) ja_nil)) (j_lst (ja_cons (j_add (j_add (j_tup (ja_cons j_int ja_nil)) (j_var 2)) (j_tup (ja_cons (j_sub (j_var 1) j_int) ja_nil))) (ja_cons (j_add (j_var 2) (j_tup (ja_cons (j_sub (j_var 1) j_int) (ja_cons (j_sub (j_var 1) j_int) ja_nil)))) ja_nil)))) (ja_cons (j_var 1) ja_nil)))) jss_nil)) jss_nil) (jss_cons (js_if (jt_cmp cx_eq (j_var 0) j_str) (jss_cons (js_ret (j_tup (ja_cons (j_add (j_call (cal_pairs_to V) [] (by first | decide | omega) (ja_cons (j_sub (j_var 1) j_int) ja_nil)) (j_lst (ja_cons (j_add (j_tupleRange V.f_tuple V.f_range (ja_cons j_int (ja_cons (j_sub (j_var 1) j_int) ja_nil))) (j_tup (ja_cons (j_var 1) ja_nil))) ja_nil))) (ja_cons (j_add (j_var 1) j_int) ja_nil)))) jss_nil) jss_nil) (jss_cons (js_if (jt_cmp cx_eq (j_var 0) j_str) (jss_cons (js_ret (j_tup (ja_cons (j_lst (ja_cons (j_tup (ja_cons j_int (ja_cons j_int ja_nil))) (ja_cons (j_tup (ja_cons j_int (ja_cons j_int ja_nil))) (ja_cons (j_tup (ja_cons j_int (ja_cons j_int ja_nil))) (ja_cons (j_tup (ja_cons j_int (ja_cons j_int (ja_cons j_int ja_nil)))) ja_nil))))) (ja_cons j_int ja_nil)))) jss_nil) jss_nil) (jss_cons (js_ret (j_tup (ja_cons (j_lst (ja_cons (j_tup (ja_cons j_int (ja_cons j_int ja_nil))) (ja_cons (j_tup (ja_cons j_int (ja_cons j_int ja_nil))) (ja_cons (j_tup (ja_cons j_int (ja_cons j_int (ja_cons j_int (ja_cons j_int ja_nil))))) (ja_cons (j_tup (ja_cons j_int (ja_cons j_int (ja_cons j_int ja_nil)))) ja_nil))))) (ja_cons j_int ja_nil)))) jss_nil)))))
theorem cal_rows_by {c : Ct} (V : Ev c) : Cal c 2 "rows_by" f_rows_by := by
  obtain ⟨f, fd, F, hm⟩ := V.d_23
  exact cal_of (k := 1) (m := m_rows_by) (N := N_23) F hm fs_23 (F.bindsN fun _ _ _ _ _ _ us hl => match us, hl with | [_, _], _ => rfl) fun E => j_rows_by V
/-! ### fits_core -/
def N_25 : List Str := ["table", "value", "word", "kinds", "contexts", "rows", "due", "many", "kind", "at", "name"]
theorem nd_25 : N_25.Nodup := by decide +kernel
theorem fs_25 : FnScope N_25 ["table", "value"] (defScope (top 25)) := ⟨rfl, rfl, rfl, nd_25, rfl, by decide +kernel, by decide +kernel⟩
def m_fits_core : So := (sSeq (sIf (mOr (mNot (mTst (mCall [] f_is_tuple_of (mCons (mVar 1) (mCons (mC (.int 3)) (mCons (mC (.int 3)) mNil)))))) (mOr (mNot (mTst (mUn (isiT "str") (mOp dIx (mVar 1) (mC (.int 0)))))) (mTst (mUn (dInT tb_LEAST true) (mOp dIx (mVar 1) (mC (.int 0))))))) (sSeq (sRet (mC (.bool false))) sSkip) sSkip) (sSeq (sGet (gTpN 3 (gCn (gNm 2) (gCn (gNm 3) (gCn (gNm 4) gNl)))) (mVar 1)) (sSeq (sSet 5 (mCb dDict (mCons (mCb dList (mCons (mOp dIx (mVar 0) (mC (.int 1))) mNil)) mNil))) (sSeq (sIf (mOr (mNot (mTst (mCall [] f_are_unlike (mCons (mCb dList (mCons (mVar 5) mNil)) (mCons (mVar 3) mNil))))) (mNot (mTst (mCall [] f_are_unlike (mCons (mOp dIx (mVar 0) (mC (.int 0))) (mCons (mVar 4) mNil)))))) (sSeq (sRet (mC (.bool false))) sSkip) sSkip) (sSeq (sIf (mNot (mTst (mChain dLeX dLeX (mUn (dIxT tb_LEAST) (mVar 2)) (mCb dLen (mCons (mVar 3) mNil)) (mUn (dIxT tb_MOST) (mVar 2))))) (sSeq (sRet (mC (.bool false))) sSkip) sSkip) (sSeq (sGet (gTpN 2 (gCn (gNm 6) (gCn (gNm 7) gNl))) (mCall [] f_rows_by (mCons (mVar 2) (mCons (mCb dLen (mCons (mVar 3) mNil)) mNil)))) (sSeq (sIf (mTst (mOp (opB dNe) (mCb dLen (mCons (mVar 4) mNil)) (mVar 7))) (sSeq (sRet (mC (.bool false))) sSkip) sSkip) (sSeq (sRet (mOp (opB dEq) (mLc [8] (gNm 8) (mIt (mVar 3)) (mRet true) (mCb dTup (mCons (mLc [9, 10] (gTpN 2 (gCn (gNm 9) (gCn (gNm 10) gNl))) (mEnum (mVar 4)) (mTst (mOp (opB dIn) (mVar 10) (mOp dIxK (mVar 5) (mVar 8)))) (mVar 9)) mNil))) (mVar 6))) sSkip))))))))
def f_fits_core : Fn := mDef 2 11 m_fits_core
theorem j_fits_core {c : Ct} (V : Ev c) {W : WX} : JSs c W N_25 (sxD (defScope (top 25))) 2 (defBody (top 25)) m_fits_core :=
  (jss_cons (js_if (jt_w (jw_or (jt_not (jt_val (j_call (cal_is_tuple_of V) [] (by first | decide | omega) (ja_cons (j_var 1) (ja_cons j_int (ja_cons j_int ja_nil)))))) (jw_or (jt_not (jt_val (j_isi V.f_isinstance V.f_str (j_ix (j_var 1) j_int)))) (jw_or1 (jt_ninT V.c_LEAST (j_ix (j_var 1) j_int)))))) (jss_cons (js_ret j_bl) jss_nil) jss_nil) (jss_cons (js_get (j_var 1) (jg_tup (jgs_cons (jg_name 2 nd_25) (jgs_cons (jg_name 3 nd_25) (jgs_cons (jg_name 4 nd_25) jgs_nil))))) (jss_cons (js_set 5 nd_25 (j_dict V.f_dict (ja_cons (j_list V.f_list (ja_cons (j_ix (j_var 0) j_int) ja_nil)) ja_nil))) (jss_cons (js_if (jt_w (jw_or (jt_not (jt_val (j_call (cal_are_unlike V) [] (by first | decide | omega) (ja_cons (j_list V.f_list (ja_cons (j_var 5) ja_nil)) (ja_cons (j_var 3) ja_nil))))) (jw_or1 (jt_not (jt_val (j_call (cal_are_unlike V) [] (by first | decide | omega) (ja_cons (j_ix (j_var 0) j_int) (ja_cons (j_var 4) ja_nil)))))))) (jss_cons (js_ret j_bl) jss_nil) jss_nil) (jss_cons (js_if (jt_not (jt_chain cx_le cx_le (j_ixT V.c_LEAST (j_var 2)) (j_len V.f_len (ja_cons (j_var 3) ja_nil)) (j_ixT V.c_MOST (j_var 2)))) (jss_cons (js_ret j_bl) jss_nil) jss_nil) (jss_cons (js_get (j_call (cal_rows_by V) [] (by first | decide | omega) (ja_cons (j_var 2) (ja_cons (j_len V.f_len (ja_cons (j_var 3) ja_nil)) ja_nil))) (jg_tup (jgs_cons (jg_name 6 nd_25) (jgs_cons (jg_name 7 nd_25) jgs_nil)))) (jss_cons (js_if (jt_cmp cx_ne (j_len V.f_len (ja_cons (j_var 4) ja_nil)) (j_var 7)) (jss_cons (js_ret j_bl) jss_nil) jss_nil) (jss_cons (js_ret (j_cmp cx_eq (j_lc [("kind", 8)] nd_25 (ji_any (j_var 3)) (jct (jc_name 8 nd_25)) jts_nil (j_tuple V.f_tuple (ja_cons (j_lc [("at", 9), ("name", 10)] nd_25 (ji_enum V.f_enumerate (j_var 4)) (jct_tup (jcs_cons (jc_name 9 nd_25) (jcs_cons (jc_name 10 nd_25) jcs_nil))) (jts_one (jt_cmp cx_in (j_var 10) (j_ixK (j_var 5) (j_var 8)))) (j_var 9)) ja_nil))) (j_var 6))) jss_nil))))))))
theorem cal_fits_core {c : Ct} (V : Ev c) : Cal c 3 "fits_core" f_fits_core := by
  obtain ⟨f, fd, F, hm⟩ := V.d_25
  exact cal_of (k := 2) (m := m_fits_core) (N := N_25) F hm fs_25 (F.bindsN fun _ _ _ _ _ _ us hl => match us, hl with | [_, _], _ => rfl) fun E => j_fits_core V
/-! ### fits_name -/
def N_9 : List Str := ["value", "sign"]
theorem nd_9 : N_9.Nodup := by decide +kernel
theorem fs_9 : FnScope N_9 ["value"] (defScope (top 9)) := ⟨rfl, rfl, rfl, nd_9, rfl, by decide +kernel, by decide +kernel⟩
def m_fits_name : So := (sSeq (sIf (mOr (mNot (mTst (mUn (isiT "str") (mVar 0)))) (mNot (mTst (mChain dLeX dLeX (mC (.int 1)) (mCb dLen (mCons (mVar 0) mNil)) (mC (.int 12)))))) (sSeq (sRet (mC (.bool false))) sSkip) sSkip) (sSeq (sRet (mAndV (mOp (opB dIn) (mOp dIx (mVar 0) (mC (.int 0))) (mC (.str "abcdefghijklmnopqrstuvwxyz"))) (mCb dAll (mCons (mLc [1] (gNm 1) (mIt (mVar 0)) (mRet true) (mOp (opB dIn) (mVar 1) (mC (.str "abcdefghijklmnopqrstuvwxyz0123456789")))) mNil)))) sSkip))
def f_fits_name : Fn := mDef 1 2 m_fits_name
theorem j_fits_name {c : Ct} (V : Ev c) {W : WX} : JSs c W N_9 (sxD (defScope (top 9))) 0 (defBody (top 9)) m_fits_name :=
  (jss_cons (js_if (jt_w (jw_or (jt_not (jt_val (j_isi V.f_isinstance V.f_str (j_var 0)))) (jw_or1 (jt_not (jt_chain cx_le cx_le j_int (j_len V.f_len (ja_cons (j_var 0) ja_nil)) (j_gint V.c_LONGEST)))))) (jss_cons (js_ret j_bl) jss_nil) jss_nil) (jss_cons (js_ret (j_and (j_cmp cx_in (j_ix (j_var 0) j_int) (j_gstr V.c_LETTERS)) (j_one (j_all V.f_all (ja_cons (j_lc [("sign", 1)] nd_9 (ji_any (j_var 0)) (jct (jc_name 1 nd_9)) jts_nil (j_cmp cx_in (j_var 1) (j_gstr V.c_SIGNS))) ja_nil))))) jss_nil))
theorem cal_fits_name {c : Ct} (V : Ev c) : Cal c 1 "fits_name" f_fits_name := by
  obtain ⟨f, fd, F, hm⟩ := V.d_9
  exact cal_of (k := 0) (m := m_fits_name) (N := N_9) F hm fs_9 (F.bindsN fun _ _ _ _ _ _ us hl => match us, hl with | [_], _ => rfl) fun E => j_fits_name V
/-! ### are_names -/
def N_15 : List Str := ["value", "least", "most", "one", "other"]
theorem nd_15 : N_15.Nodup := by decide +kernel
theorem fs_15 : FnScope N_15 ["value", "least", "most"] (defScope (top 15)) := ⟨rfl, rfl, rfl, nd_15, rfl, by decide +kernel, by decide +kernel⟩
def m_are_names : So := (sSeq (sIf (mOr (mNot (mTst (mCall [] f_is_tuple_of (mCons (mVar 0) (mCons (mVar 1) (mCons (mVar 2) mNil)))))) (mNot (mTst (mCb dAll (mCons (mLc [3] (gNm 3) (mIt (mVar 0)) (mRet true) (mCall [] f_fits_name (mCons (mVar 3) mNil))) mNil))))) (sSeq (sRet (mC (.bool false))) sSkip) sSkip) (sSeq (sRet (mCb dAll (mCons (mLc [3, 4] (gTpN 2 (gCn (gNm 3) (gCn (gNm 4) gNl))) (mZip (mVar 0) (mSl dSl (mVar 0) (mPart (mC (.int 1))) mNoPart)) (mRet true) (mOp (opB dLtX) (mVar 3) (mVar 4))) mNil))) sSkip))
def f_are_names : Fn := mDef 3 5 m_are_names
theorem j_are_names {c : Ct} (V : Ev c) {W : WX} : JSs c W N_15 (sxD (defScope (top 15))) 1 (defBody (top 15)) m_are_names :=
  (jss_cons (js_if (jt_w (jw_or (jt_not (jt_val (j_call (cal_is_tuple_of V) [] (by first | decide | omega) (ja_cons (j_var 0) (ja_cons (j_var 1) (ja_cons (j_var 2) ja_nil)))))) (jw_or1 (jt_not (jt_val (j_all V.f_all (ja_cons (j_lc [("one", 3)] nd_15 (ji_any (j_var 0)) (jct (jc_name 3 nd_15)) jts_nil (j_call (cal_fits_name V) [] (by first | decide | omega) (ja_cons (j_var 3) ja_nil))) ja_nil))))))) (jss_cons (js_ret j_bl) jss_nil) jss_nil) (jss_cons (js_ret (j_all V.f_all (ja_cons (j_lc [("one", 3), ("other", 4)] nd_15 (ji_zip V.f_zip (j_var 0) (j_sl (j_var 0) (jo_some j_int) jo_none)) (jct_tup (jcs_cons (jc_name 3 nd_15) (jcs_cons (jc_name 4 nd_15) jcs_nil))) jts_nil (j_cmp cx_lt (j_var 3) (j_var 4))) ja_nil))) jss_nil))
theorem cal_are_names {c : Ct} (V : Ev c) : Cal c 2 "are_names" f_are_names := by
  obtain ⟨f, fd, F, hm⟩ := V.d_15
  exact cal_of (k := 1) (m := m_are_names) (N := N_15) F hm fs_15 (F.bindsN fun _ _ _ _ _ _ us hl => match us, hl with | [_, _, _], _ => rfl) fun E => j_are_names V
/-! ### are_some -/
def N_16 : List Str := ["contexts", "value", "one"]
theorem nd_16 : N_16.Nodup := by decide +kernel
theorem fs_16 : FnScope N_16 ["contexts", "value"] (defScope (top 16)) := ⟨rfl, rfl, rfl, nd_16, rfl, by decide +kernel, by decide +kernel⟩
def m_are_some : So := (sSeq (sRet (mAndV (mCall [] f_are_names (mCons (mVar 1) (mCons (mC (.int 1)) (mCons (mC (.int 40)) mNil)))) (mCb dAll (mCons (mLc [2] (gNm 2) (mIt (mVar 1)) (mRet true) (mOp (opB dIn) (mVar 2) (mVar 0))) mNil)))) sSkip)
def f_are_some : Fn := mDef 2 3 m_are_some
theorem j_are_some {c : Ct} (V : Ev c) {W : WX} : JSs c W N_16 (sxD (defScope (top 16))) 2 (defBody (top 16)) m_are_some :=
  (jss_cons (js_ret (j_and (j_call (cal_are_names V) [] (by first | decide | omega) (ja_cons (j_var 1) (ja_cons j_int (ja_cons (j_gint V.c_MOST_CONTEXTS) ja_nil)))) (j_one (j_all V.f_all (ja_cons (j_lc [("one", 2)] nd_16 (ji_any (j_var 1)) (jct (jc_name 2 nd_16)) jts_nil (j_cmp cx_in (j_var 2) (j_var 0))) ja_nil))))) jss_nil)
theorem cal_are_some {c : Ct} (V : Ev c) : Cal c 3 "are_some" f_are_some := by
  obtain ⟨f, fd, F, hm⟩ := V.d_16
  exact cal_of (k := 2) (m := m_are_some) (N := N_16) F hm fs_16 (F.bindsN fun _ _ _ _ _ _ us hl => match us, hl with | [_, _], _ => rfl) fun E => j_are_some V
/-! ### fits_table -/
def N_17 : List Str := ["value", "row"]
theorem nd_17 : N_17.Nodup := by decide +kernel
theorem fs_17 : FnScope N_17 ["value"] (defScope (top 17)) := ⟨rfl, rfl, rfl, nd_17, rfl, by decide +kernel, by decide +kernel⟩
def m_fits_table : So := (sSeq (sIf (mOr (mNot (mTst (mCall [] f_is_tuple_of (mCons (mVar 0) (mCons (mC (.int 2)) (mCons (mC (.int 2)) mNil)))))) (mNot (mTst (mCall [] f_are_names (mCons (mOp dIx (mVar 0) (mC (.int 0))) (mCons (mC (.int 0)) (mCons (mC (.int 40)) mNil))))))) (sSeq (sRet (mC (.bool false))) sSkip) sSkip) (sSeq (sIf (mOr (mNot (mTst (mCall [] f_is_tuple_of (mCons (mOp dIx (mVar 0) (mC (.int 1))) (mCons (mC (.int 0)) (mCons (mC (.int 20)) mNil)))))) (mNot (mTst (mCb dAll (mCons (mLc [1] (gNm 1) (mIt (mOp dIx (mVar 0) (mC (.int 1)))) (mRet true) (mCall [] f_is_tuple_of (mCons (mVar 1) (mCons (mC (.int 2)) (mCons (mC (.int 2)) mNil))))) mNil))))) (sSeq (sRet (mC (.bool false))) sSkip) sSkip) (sSeq (sIf (mNot (mTst (mCall [] f_are_names (mCons (mCb dTup (mCons (mLc [1] (gNm 1) (mIt (mOp dIx (mVar 0) (mC (.int 1)))) (mRet true) (mOp dIx (mVar 1) (mC (.int 0)))) mNil)) (mCons (mC (.int 0)) (mCons (mC (.int 20)) mNil)))))) (sSeq (sRet (mC (.bool false))) sSkip) sSkip) (sSeq (sRet (mCb dAll (mCons (mLc [1] (gNm 1) (mIt (mOp dIx (mVar 0) (mC (.int 1)))) (mRet true) (mCall [] f_are_some (mCons (mOp dIx (mVar 0) (mC (.int 0))) (mCons (mOp dIx (mVar 1) (mC (.int 1))) mNil)))) mNil))) sSkip))))
def f_fits_table : Fn := mDef 1 2 m_fits_table
theorem j_fits_table {c : Ct} (V : Ev c) {W : WX} : JSs c W N_17 (sxD (defScope (top 17))) 3 (defBody (top 17)) m_fits_table :=
  (jss_cons (js_if (jt_w (jw_or (jt_not (jt_val (j_call (cal_is_tuple_of V) [] (by first | decide | omega) (ja_cons (j_var 0) (ja_cons j_int (ja_cons j_int ja_nil)))))) (jw_or1 (jt_not (jt_val (j_call (cal_are_names V) [] (by first | decide | omega) (ja_cons (j_ix (j_var 0) j_int) (ja_cons j_int (ja_cons (j_gint V.c_MOST_CONTEXTS) ja_nil))))))))) (jss_cons (js_ret j_bl) jss_nil) jss_nil) (jss_cons (js_if (jt_w (jw_or (jt_not (jt_val (j_call (cal_is_tuple_of V) [] (by first | decide | omega) (ja_cons (j_ix (j_var 0) j_int) (ja_cons j_int (ja_cons (j_gint V.c_MOST_KINDS) ja_nil)))))) (jw_or1 (jt_not (jt_val (j_all V.f_all (ja_cons (j_lc [("row", 1)] nd_17 (ji_any (j_ix (j_var 0) j_int)) (jct (jc_name 1 nd_17)) jts_nil (j_call (cal_is_tuple_of V) [] (by first | decide | omega) (ja_cons (j_var 1) (ja_cons j_int (ja_cons j_int ja_nil))))) ja_nil))))))) (jss_cons (js_ret j_bl) jss_nil) jss_nil) (jss_cons (js_if (jt_not (jt_val (j_call (cal_are_names V) [] (by first | decide | omega) (ja_cons (j_tuple V.f_tuple (ja_cons (j_lc [("row", 1)] nd_17 (ji_any (j_ix (j_var 0) j_int)) (jct (jc_name 1 nd_17)) jts_nil (j_ix (j_var 1) j_int)) ja_nil)) (ja_cons j_int (ja_cons (j_gint V.c_MOST_KINDS) ja_nil)))))) (jss_cons (js_ret j_bl) jss_nil) jss_nil) (jss_cons (js_ret (j_all V.f_all (ja_cons (j_lc [("row", 1)] nd_17 (ji_any (j_ix (j_var 0) j_int)) (jct (jc_name 1 nd_17)) jts_nil (j_call (cal_are_some V) [] (by first | decide | omega) (ja_cons (j_ix (j_var 0) j_int) (ja_cons (j_ix (j_var 1) j_int) ja_nil)))) ja_nil))) jss_nil))))
theorem cal_fits_table {c : Ct} (V : Ev c) : Cal c 4 "fits_table" f_fits_table := by
  obtain ⟨f, fd, F, hm⟩ := V.d_17
  exact cal_of (k := 3) (m := m_fits_table) (N := N_17) F hm fs_17 (F.bindsN fun _ _ _ _ _ _ us hl => match us, hl with | [_], _ => rfl) fun E => j_fits_table V
/-! ### need_table -/
def N_18 : List Str := ["value"]
theorem nd_18 : N_18.Nodup := by decide +kernel
theorem fs_18 : FnScope N_18 ["value"] (defScope (top 18)) := ⟨rfl, rfl, rfl, nd_18, rfl, by decide +kernel, by decide +kernel⟩
def m_need_table : So := (sSeq (sIf (mNot (mTst (mCall [] f_fits_table (mCons (mVar 0) mNil)))) (sSeq sNever sSkip) sSkip) sSkip)
def f_need_table : Fn := mDef 1 1 m_need_table
theorem j_need_table {c : Ct} (V : Ev c) {W : WX} : JSs c W N_18 (sxD (defScope (top 18))) 4 (defBody (top 18)) m_need_table :=
  (jss_cons (js_if (jt_not (jt_val (j_call (cal_fits_table V) [] (by first | decide | omega) (ja_cons (j_var 0) ja_nil)))) (jss_cons js_never jss_nil) jss_nil) jss_nil)
theorem cal_need_table {c : Ct} (V : Ev c) : Cal c 5 "need_table" f_need_table := by
  obtain ⟨f, fd, F, hm⟩ := V.d_18
  exact cal_of (k := 4) (m := m_need_table) (N := N_18) F hm fs_18 (F.bindsN fun _ _ _ _ _ _ us hl => match us, hl with | [_], _ => rfl) fun E => j_need_table V
/-! ### is_core -/
def N_27 : List Str := ["table", "value"]
theorem nd_27 : N_27.Nodup := by decide +kernel
theorem fs_27 : FnScope N_27 ["table", "value"] (defScope (top 27)) := ⟨rfl, rfl, rfl, nd_27, rfl, by decide +kernel, by decide +kernel⟩
def m_is_core : So := (sSeq (sDrop (mCall [] f_need_table (mCons (mVar 0) mNil))) (sSeq (sRet (mCall [] f_fits_core (mCons (mVar 0) (mCons (mVar 1) mNil)))) sSkip))
def f_is_core : Fn := mDef 2 2 m_is_core
theorem j_is_core {c : Ct} (V : Ev c) {W : WX} : JSs c W N_27 (sxD (defScope (top 27))) 5 (defBody (top 27)) m_is_core :=
  (jss_cons (js_expr (j_call (cal_need_table V) [] (by first | decide | omega) (ja_cons (j_var 0) ja_nil))) (jss_cons (js_ret (j_call (cal_fits_core V) [] (by first | decide | omega) (ja_cons (j_var 0) (ja_cons (j_var 1) ja_nil)))) jss_nil))
theorem cal_is_core {c : Ct} (V : Ev c) : Cal c 6 "is_core" f_is_core := by
  obtain ⟨f, fd, F, hm⟩ := V.d_27
  exact cal_of (k := 5) (m := m_is_core) (N := N_27) F hm fs_27 (F.bindsN fun _ _ _ _ _ _ us hl => match us, hl with | [_, _], _ => rfl) fun E => j_is_core V
/-! ### _law_right -/
def N_41 : List Str := ["cup", "word", "least", "many", "table", "core", "other", "value", "kind", "name", "rows", "own", "names", "others", "turn", "one"]
theorem nd_41 : N_41.Nodup := by decide +kernel
theorem fs_41 : FnScope N_41 ["cup"] (defScope (top 41)) := ⟨rfl, rfl, rfl, nd_41, rfl, by decide +kernel, by decide +kernel⟩
def m_law_right : So := (sSeq (sSet 1 (mCall [true] f_law_some (mCons (mVar 0) (mCons (mLst (mCons (mC (.str "ring")) (mCons (mC (.str "arch")) (mCons (mC (.str "fork")) (mCons (mC (.str "comb")) (mCons (mC (.str "step")) mNil)))))) mNil)))) (sSeq (sSet 2 (mIf (mTst (mOp (opB dIn) (mVar 1) (mTup (mCons (mC (.str "ring")) (mCons (mC (.str "fork")) mNil))))) (mC (.int 3)) (mC (.int 4)))) (sSeq (sSet 3 (mIf (mTst (mOp (opB dIn) (mVar 1) (mTup (mCons (mC (.str "comb")) (mCons (mC (.str "step")) mNil))))) (mC (.int 4)) (mCall [true] f_law_some (mCons (mVar 0) (mCons (mLst (mCons (mVar 2) (mCons (mOp dAdd (mVar 2) (mC (.int 1))) (mCons (mC (.int 6)) (mCons (mOp dAdd (mVar 2) (mCall [true] f_law_roll (mCons (mVar 0) (mCons (mOp dSub (mC (.int 21)) (mVar 2)) mNil)))) mNil))))) mNil))))) (sSeq (sGet (gTpN 2 (gCn (gNm 4) (gCn (gNm 5) gNl))) (mCall [true] f_law_planted (mCons (mVar 0) (mCons (mVar 1) (mCons (mVar 3) mNil))))) (sSeq (sSet 6 (mCall [true] f_law_turned (mCons (mVar 0) (mCons (mVar 5) mNil)))) (sSeq (sIf (mOr (mTst (mOp (opB dIsn) (mCall [] f_is_core (mCons (mVar 4) (mCons (mVar 5) mNil))) (mC (.bool true)))) (mTst (mOp (opB dIsn) (mCall [] f_is_core (mCons (mVar 4) (mCons (mVar 6) mNil))) (mC (.bool true))))) (sSeq (sRet (mC (.bool false))) sSkip) sSkip) (sSeq (sFor (gNm 7) (mIt (mLc [14] (gNm 14) (mRng1 (mCons (mC (.int 15)) mNil)) (mRet true) (mCall [true] f_law_some (mCons (mVar 0) (mCons (mCall [true] f_law_near (mCons (mVar 0) (mCons (mVar 4) (mCons (mCall [true] f_law_some (mCons (mVar 0) (mCons (mLst (mCons (mVar 5) (mCons (mVar 6) mNil))) mNil))) mNil)))) mNil))))) (sSeq (sIf (mNot (mTst (mCall [] (f_law_same 6) (mCons (mCall [] f_is_core (mCons (mVar 4) (mCons (mVar 7) mNil))) (mCons (mCall [] f_law_judge (mCons (mVar 4) (mCons (mVar 7) mNil))) mNil))))) (sSeq (sRet (mC (.bool false))) sSkip) sSkip) sSkip)) (sSeq (sPar [8, 9] (mConsF (mCall [true] f_law_some (mCons (mVar 0) (mCons (mOp dIx (mVar 5) (mC (.int 1))) mNil))) (mConsF (mCall [true] f_law_some (mCons (mVar 0) (mCons (mOp dIx (mVar 5) (mC (.int 2))) mNil))) mNil))) (sSeq (sSet 10 (mLst mNil)) (sSeq (sFor (gTpN 2 (gCn (gNm 11) (gCn (gNm 12) gNl))) (mIt (mOp dIx (mVar 4) (mC (.int 1)))) (sSeq (sSet 13 (mCb dTup (mCons (mLc [15] (gNm 15) (mIt (mVar 12)) (mTst (mOp (opB dNe) (mVar 15) (mVar 9))) (mVar 15)) mNil))) (sSeq (sDrop (mMut "list" 10 fAppend (mCons (mTup (mCons (mVar 11) (mCons (mIf (mTst (mOp (opB dNe) (mVar 11) (mVar 8))) (mVar 12) (mIf (mTst (mOp (opB dIn) (mVar 9) (mVar 12))) (mVar 13) (mCb dTup (mCons (mCb dSorted (mCons (mOp dAdd (mVar 12) (mTup (mCons (mVar 9) mNil))) mNil)) mNil)))) mNil))) mNil))) sSkip))) (sSeq (sIf (mAnd (mTst (mOp (opB dEq) (mLc [11, 12] (gTpN 2 (gCn (gNm 11) (gCn (gNm 12) gNl))) (mIt (mVar 10)) (mTst (mOp (opB dEq) (mVar 12) (mTup mNil))) (mC (.int 1))) (mLst mNil))) (mTst (mOp (opB dIsn) (mCall [] f_is_core (mCons (mTup (mCons (mOp dIx (mVar 4) (mC (.int 0))) (mCons (mCb dTup (mCons (mVar 10) mNil)) mNil))) (mCons (mVar 5) mNil))) (mC (.bool false))))) (sSeq (sRet (mC (.bool false))) sSkip) sSkip) (sSeq (sRet (mC (.bool true))) sSkip))))))))))))
def f_law_right : Fn := mDef 1 16 m_law_right
theorem j_law_right {c : Ct} (V : Ev c) {W : WX} : JSs c W N_41 (sxD (defScope (top 41))) 7 (defBody (top 41)) m_law_right :=
  (jss_cons (js_set 1 nd_41 (j_call (cal_law_some V) [true] (by first | decide | omega) (ja_cons (j_var 0) (ja_cons (j_lst (ja_cons j_str (ja_cons j_str (ja_cons j_str (ja_cons j_str (ja_cons j_str ja_nil)))))) ja_nil)))) (jss_cons (js_set 2 nd_41 (j_if (jt_cmp cx_in (j_var 1) (j_tup (ja_cons j_str (ja_cons j_str ja_nil)))) j_int j_int)) (jss_cons (js_set 3 nd_41 (j_if (jt_cmp cx_in (j_var 1) (j_tup (ja_cons j_str (ja_cons j_str ja_nil)))) j_int (j_call (cal_law_some V) [true] (by first | decide | omega) (ja_cons (j_var 0) (ja_cons (j_lst (ja_cons (j_var 2) (ja_cons (j_add (j_var 2) j_int) (ja_cons j_int (ja_cons (j_add (j_var 2) (j_call (cal_law_roll V) [true] (by first | decide | omega) (ja_cons (j_var 0) (ja_cons (j_sub j_int (j_var 2)) ja_nil)))) ja_nil))))) ja_nil))))) (jss_cons (js_get (j_call (cal_law_planted V) [true] (by first | decide | omega) (ja_cons (j_var 0) (ja_cons (j_var 1) (ja_cons (j_var 3) ja_nil)))) (jg_tup (jgs_cons (jg_name 4 nd_41) (jgs_cons (jg_name 5 nd_41) jgs_nil)))) (jss_cons (js_set 6 nd_41 (j_call (cal_law_turned V) [true] (by first | decide | omega) (ja_cons (j_var 0) (ja_cons (j_var 5) ja_nil)))) (jss_cons (js_if (jt_w (jw_or (jt_cmp cx_isn (j_call (cal_is_core V) [] (by first | decide | omega) (ja_cons (j_var 4) (ja_cons (j_var 5) ja_nil))) j_bl) (jw_or1 (jt_cmp cx_isn (j_call (cal_is_core V) [] (by first | decide | omega) (ja_cons (j_var 4) (ja_cons (j_var 6) ja_nil))) j_bl)))) (jss_cons (js_ret j_bl) jss_nil) jss_nil) (jss_cons (js_for (ji_any (j_lc [("turn", 14)] nd_41 (ji_rng1 V.f_range (ja_cons j_int ja_nil)) (jct (jc_name 14 nd_41)) jts_nil (j_call (cal_law_some V) [true] (by first | decide | omega) (ja_cons (j_var 0) (ja_cons (j_call (cal_law_near V) [true] (by first | decide | omega) (ja_cons (j_var 0) (ja_cons (j_var 4) (ja_cons (j_call (cal_law_some V) [true] (by first | decide | omega) (ja_cons (j_var 0) (ja_cons (j_lst (ja_cons (j_var 5) (ja_cons (j_var 6) ja_nil))) ja_nil))) ja_nil)))) ja_nil))))) (jgt (jg_name 7 nd_41)) (jss_cons (js_if (jt_not (jt_val (j_call (cal_law_same V 6) [] (by first | decide | omega) (ja_cons (j_call (cal_is_core V) [] (by first | decide | omega) (ja_cons (j_var 4) (ja_cons (j_var 7) ja_nil))) (ja_cons (j_call (cal_law_judge V) [] (by first | decide | omega) (ja_cons (j_var 4) (ja_cons (j_var 7) ja_nil))) ja_nil))))) (jss_cons (js_ret j_bl) jss_nil) jss_nil) jss_nil)) (jss_cons (js_parT [8, 9] nd_41 (ja_consF (j_call (cal_law_some V) [true] (by first | decide | omega) (ja_cons (j_var 0) (ja_cons (j_ix (j_var 5) j_int) ja_nil))) (ja_consF (j_call (cal_law_some V) [true] (by first | decide | omega) (ja_cons (j_var 0) (ja_cons (j_ix (j_var 5) j_int) ja_nil))) ja_nil))) (jss_cons (js_set 10 nd_41 (j_lst ja_nil)) (jss_cons (js_for (ji_any (j_ix (j_var 4) j_int)) (jgt (jg_tup (jgs_cons (jg_name 11 nd_41) (jgs_cons (jg_name 12 nd_41) jgs_nil)))) (jss_cons (js_set 13 nd_41 (j_tuple V.f_tuple (ja_cons (j_lc [("one", 15)] nd_41 (ji_any (j_var 12)) (jct (jc_name 15 nd_41)) (jts_one (jt_cmp cx_ne (j_var 15) (j_var 9))) (j_var 15)) ja_nil))) (jss_cons (js_expr (j_append 10 (ja_cons (j_tup (ja_cons (j_var 11) (ja_cons (j_if (jt_cmp cx_ne (j_var 11) (j_var 8)) (j_var 12) (j_if (jt_cmp cx_in (j_var 9) (j_var 12)) (j_var 13) (j_tuple V.f_tuple (ja_cons (j_sorted V.f_sorted (ja_cons (j_add (j_var 12) (j_tup (ja_cons (j_var 9) ja_nil))) ja_nil)) ja_nil)))) ja_nil))) ja_nil))) jss_nil))) (jss_cons (js_if (jt_w (jw_and (jt_cmp cx_eq (j_lc [("own", 11), ("names", 12)] nd_41 (ji_any (j_var 10)) (jct (jc_tup (jcs_cons (jc_name 11 nd_41) (jcs_cons (jc_name 12 nd_41) jcs_nil)))) (jts_one (jt_cmp cx_eq (j_var 12) (j_tup ja_nil))) j_int) (j_lst ja_nil)) (jw_and1 (jt_cmp cx_isn (j_call (cal_is_core V) [] (by first | decide | omega) (ja_cons (j_tup (ja_cons (j_ix (j_var 4) j_int) (ja_cons (j_tuple V.f_tuple (ja_cons (j_var 10) ja_nil)) ja_nil))) (ja_cons (j_var 5) ja_nil))) j_bl)))) (jss_cons (js_ret j_bl) jss_nil) jss_nil) (jss_cons (js_ret j_bl) jss_nil))))))))))))
theorem cal_law_right {c : Ct} (V : Ev c) : Cal c 8 "_law_right" f_law_right := by
  obtain ⟨f, fd, F, hm⟩ := V.d_41
  exact cal_of (k := 7) (m := m_law_right) (N := N_41) F hm fs_41 (F.bindsN fun _ _ _ _ _ _ us hl => match us, hl with | [_], _ => rfl) fun E => j_law_right V
/-! ### fits_whole -/
def N_10 : List Str := ["value", "low", "high"]
theorem nd_10 : N_10.Nodup := by decide +kernel
theorem fs_10 : FnScope N_10 ["value", "low", "high"] (defScope (top 10)) := ⟨rfl, rfl, rfl, nd_10, rfl, by decide +kernel, by decide +kernel⟩
def m_fits_whole : So := (sSeq (sRet (mAndV (mUn (isiT "int") (mVar 0)) (mAndV (mNotV (mUn (isiT "bool") (mVar 0))) (mChain dLeX dLeX (mVar 1) (mVar 0) (mVar 2))))) sSkip)
def f_fits_whole : Fn := mDef 3 3 m_fits_whole
theorem j_fits_whole {c : Ct} (V : Ev c) {W : WX} : JSs c W N_10 (sxD (defScope (top 10))) 0 (defBody (top 10)) m_fits_whole :=
  (jss_cons (js_ret (j_and (j_isi V.f_isinstance V.f_int (j_var 0)) (j_and (j_not (j_isi V.f_isinstance V.f_bool (j_var 0))) (j_one (j_chain cx_le cx_le (j_var 1) (j_var 0) (j_var 2)))))) jss_nil)
theorem cal_fits_whole {c : Ct} (V : Ev c) : Cal c 1 "fits_whole" f_fits_whole := by
  obtain ⟨f, fd, F, hm⟩ := V.d_10
  exact cal_of (k := 0) (m := m_fits_whole) (N := N_10) F hm fs_10 (F.bindsN fun _ _ _ _ _ _ us hl => match us, hl with | [_, _, _], _ => rfl) fun E => j_fits_whole V
/-! ### pattern -/
def N_26 : List Str := ["word", "many"]
theorem nd_26 : N_26.Nodup := by decide +kernel
theorem fs_26 : FnScope N_26 ["word", "many"] (defScope (top 26)) := ⟨rfl, rfl, rfl, nd_26, rfl, by decide +kernel, by decide +kernel⟩
def m_pattern : So := (sSeq (sIf (mOr (mNot (mTst (mUn (isiT "str") (mVar 0)))) (mTst (mUn (dInT tb_LEAST true) (mVar 0)))) (sSeq sNever sSkip) sSkip) (sSeq (sIf (mNot (mTst (mCall [] f_fits_whole (mCons (mVar 1) (mCons (mUn (dIxT tb_LEAST) (mVar 0)) (mCons (mUn (dIxT tb_MOST) (mVar 0)) mNil)))))) (sSeq sNever sSkip) sSkip) (sSeq (sRet (mCb dTup (mCons (mOp dIx (mCall [] f_rows_by (mCons (mVar 0) (mCons (mVar 1) mNil))) (mC (.int 0))) mNil))) sSkip)))
def f_pattern : Fn := mDef 2 2 m_pattern
theorem j_pattern {c : Ct} (V : Ev c) {W : WX} : JSs c W N_26 (sxD (defScope (top 26))) 2 (defBody (top 26)) m_pattern :=
  (jss_cons (js_if (jt_w (jw_or (jt_not (jt_val (j_isi V.f_isinstance V.f_str (j_var 0)))) (jw_or1 (jt_ninT V.c_LEAST (j_var 0))))) (jss_cons js_never jss_nil) jss_nil) (jss_cons (js_if (jt_not (jt_val (j_call (cal_fits_whole V) [] (by first | decide | omega) (ja_cons (j_var 1) (ja_cons (j_ixT V.c_LEAST (j_var 0)) (ja_cons (j_ixT V.c_MOST (j_var 0)) ja_nil)))))) (jss_cons js_never jss_nil) jss_nil) (jss_cons (js_ret (j_tuple V.f_tuple (ja_cons (j_ix (j_call (cal_rows_by V) [] (by first | decide | omega) (ja_cons (j_var 0) (ja_cons (j_var 1) ja_nil))) j_int) ja_nil))) jss_nil)))
theorem cal_pattern {c : Ct} (V : Ev c) : Cal c 3 "pattern" f_pattern := by
  obtain ⟨f, fd, F, hm⟩ := V.d_26
  exact cal_of (k := 2) (m := m_pattern) (N := N_26) F hm fs_26 (F.bindsN fun _ _ _ _ _ _ us hl => match us, hl with | [_, _], _ => rfl) fun E => j_pattern V
/-! ### _law_written_right -/
def N_42 : List Str := ["cup", "rows", "word", "many", "turn", "due"]
theorem nd_42 : N_42.Nodup := by decide +kernel
theorem fs_42 : FnScope N_42 ["cup"] (defScope (top 42)) := ⟨rfl, rfl, rfl, nd_42, rfl, by decide +kernel, by decide +kernel⟩
def m_law_written_right : So := (sSeq (sSet 1 (mLst (mCons (mTup (mCons (mC (.str "ring")) (mCons (mC (.int 3)) (mCons (mTup (mCons (mTup (mCons (mC (.int 0)) (mCons (mC (.int 1)) mNil))) (mCons (mTup (mCons (mC (.int 1)) (mCons (mC (.int 2)) mNil))) (mCons (mTup (mCons (mC (.int 0)) (mCons (mC (.int 2)) mNil))) mNil)))) mNil)))) (mCons (mTup (mCons (mC (.str "ring")) (mCons (mC (.int 4)) (mCons (mTup (mCons (mTup (mCons (mC (.int 0)) (mCons (mC (.int 1)) mNil))) (mCons (mTup (mCons (mC (.int 1)) (mCons (mC (.int 2)) mNil))) (mCons (mTup (mCons (mC (.int 2)) (mCons (mC (.int 3)) mNil))) (mCons (mTup (mCons (mC (.int 0)) (mCons (mC (.int 3)) mNil))) mNil))))) mNil)))) (mCons (mTup (mCons (mC (.str "fork")) (mCons (mC (.int 3)) (mCons (mTup (mCons (mTup (mCons (mC (.int 0)) (mCons (mC (.int 1)) mNil))) (mCons (mTup (mCons (mC (.int 1)) (mCons (mC (.int 2)) mNil))) (mCons (mTup (mCons (mC (.int 1)) (mCons (mC (.int 3)) mNil))) mNil)))) mNil)))) mNil))))) (sSeq (sSet 1 (mOp dAdd (mVar 1) (mLst (mCons (mTup (mCons (mC (.str "arch")) (mCons (mC (.int 4)) (mCons (mTup (mCons (mTup (mCons (mC (.int 0)) (mCons (mC (.int 1)) mNil))) (mCons (mTup (mCons (mC (.int 1)) (mCons (mC (.int 2)) mNil))) (mCons (mTup (mCons (mC (.int 0)) (mCons (mC (.int 1)) (mCons (mC (.int 3)) mNil)))) (mCons (mTup (mCons (mC (.int 1)) (mCons (mC (.int 2)) (mCons (mC (.int 3)) mNil)))) mNil))))) mNil)))) (mCons (mTup (mCons (mC (.str "arch")) (mCons (mC (.int 5)) (mCons (mTup (mCons (mTup (mCons (mC (.int 0)) (mCons (mC (.int 1)) mNil))) (mCons (mTup (mCons (mC (.int 1)) (mCons (mC (.int 2)) mNil))) (mCons (mTup (mCons (mC (.int 2)) (mCons (mC (.int 3)) mNil))) (mCons (mTup (mCons (mC (.int 0)) (mCons (mC (.int 1)) (mCons (mC (.int 2)) (mCons (mC (.int 4)) mNil))))) (mCons (mTup (mCons (mC (.int 1)) (mCons (mC (.int 2)) (mCons (mC (.int 3)) (mCons (mC (.int 4)) mNil))))) mNil)))))) mNil)))) mNil))))) (sSeq (sSet 1 (mOp dAdd (mVar 1) (mLst (mCons (mTup (mCons (mC (.str "fork")) (mCons (mC (.int 4)) (mCons (mTup (mCons (mTup (mCons (mC (.int 0)) (mCons (mC (.int 1)) mNil))) (mCons (mTup (mCons (mC (.int 1)) (mCons (mC (.int 2)) mNil))) (mCons (mTup (mCons (mC (.int 2)) (mCons (mC (.int 3)) mNil))) (mCons (mTup (mCons (mC (.int 1)) (mCons (mC (.int 2)) (mCons (mC (.int 4)) mNil)))) mNil))))) mNil)))) (mCons (mTup (mCons (mC (.str "comb")) (mCons (mC (.int 4)) (mCons (mTup (mCons (mTup (mCons (mC (.int 0)) (mCons (mC (.int 1)) mNil))) (mCons (mTup (mCons (mC (.int 2)) (mCons (mC (.int 3)) mNil))) (mCons (mTup (mCons (mC (.int 4)) (mCons (mC (.int 5)) mNil))) (mCons (mTup (mCons (mC (.int 0)) (mCons (mC (.int 2)) (mCons (mC (.int 4)) mNil)))) mNil))))) mNil)))) mNil))))) (sSeq (sSet 1 (mOp dAdd (mVar 1) (mLst (mCons (mTup (mCons (mC (.str "step")) (mCons (mC (.int 4)) (mCons (mTup (mCons (mTup (mCons (mC (.int 0)) (mCons (mC (.int 1)) mNil))) (mCons (mTup (mCons (mC (.int 2)) (mCons (mC (.int 3)) mNil))) (mCons (mTup (mCons (mC (.int 0)) (mCons (mC (.int 1)) (mCons (mC (.int 2)) (mCons (mC (.int 3)) mNil))))) (mCons (mTup (mCons (mC (.int 0)) (mCons (mC (.int 2)) (mCons (mC (.int 4)) mNil)))) mNil))))) mNil)))) mNil)))) (sSeq (sFor (gTpN 2 (gCn (gNm 2) (gCn (gNm 3) gNl))) (mIt (mOp dAdd (mLc [4] (gNm 4) (mRng1 (mCons (mC (.int 3)) mNil)) (mRet true) (mTup (mCons (mCall [true] f_law_some (mCons (mVar 0) (mCons (mLst (mCons (mC (.str "ring")) (mCons (mC (.str "arch")) (mCons (mC (.str "fork")) mNil)))) mNil))) (mCons (mOp dAdd (mC (.int 4)) (mCall [true] f_law_roll (mCons (mVar 0) (mCons (mC (.int 17)) mNil)))) mNil)))) (mLst (mCons (mTup (mCons (mC (.str "ring")) (mCons (mC (.int 20)) mNil))) mNil)))) (sSeq (sDrop (mMut "list" 1 fAppend (mCons (mTup (mCons (mVar 2) (mCons (mVar 3) (mCons (mCb dTup (mCons (mOp dIx (mCall [] f_law_rows (mCons (mVar 2) (mCons (mVar 3) mNil))) (mC (.int 0))) mNil)) mNil)))) mNil))) sSkip)) (sSeq (sRet (mOp (opB dEq) (mLc [2, 3, 5] (gTpN 3 (gCn (gNm 2) (gCn (gNm 3) (gCn (gNm 5) gNl)))) (mIt (mVar 1)) (mNot (mTst (mCall [] (f_law_same 6) (mCons (mCall [] f_pattern (mCons (mVar 2) (mCons (mVar 3) mNil))) (mCons (mVar 5) mNil))))) (mC (.int 1))) (mLst mNil))) sSkip))))))
def f_law_written_right : Fn := mDef 1 6 m_law_written_right
theorem j_law_written_right {c : Ct} (V : Ev c) {W : WX} : JSs c W N_42 (sxD (defScope (top 42))) 7 (defBody (top 42)) m_law_written_right :=
  (jss_cons (js_set 1 nd_42 (j_lst (ja_cons (j_tup (ja_cons j_str (ja_cons j_int (ja_cons (j_tup (ja_cons (j_tup (ja_cons j_int (ja_cons j_int ja_nil))) (ja_cons (j_tup (ja_cons j_int (ja_cons j_int ja_nil))) (ja_cons (j_tup (ja_cons j_int (ja_cons j_int ja_nil))) ja_nil)))) ja_nil)))) (ja_cons (j_tup (ja_cons j_str (ja_cons j_int (ja_cons (j_tup (ja_cons (j_tup (ja_cons j_int (ja_cons j_int ja_nil))) (ja_cons (j_tup (ja_cons j_int (ja_cons j_int ja_nil))) (ja_cons (j_tup (ja_cons j_int (ja_cons j_int ja_nil))) (ja_cons (j_tup (ja_cons j_int (ja_cons j_int ja_nil))) ja_nil))))) ja_nil)))) (ja_cons (j_tup (ja_cons j_str (ja_cons j_int (ja_cons (j_tup (ja_cons (j_tup (ja_cons j_int (ja_cons j_int ja_nil))) (ja_cons (j_tup (ja_cons j_int (ja_cons j_int ja_nil))) (ja_cons (j_tup (ja_cons j_int (ja_cons j_int ja_nil))) ja_nil)))) ja_nil)))) ja_nil))))) (jss_cons (js_set 1 nd_42 (j_add (j_var 1) (j_lst (ja_cons (j_tup (ja_cons j_str (ja_cons j_int (ja_cons (j_tup (ja_cons (j_tup (ja_cons j_int (ja_cons j_int ja_nil))) (ja_cons (j_tup (ja_cons j_int (ja_cons j_int ja_nil))) (ja_cons (j_tup (ja_cons j_int (ja_cons j_int (ja_cons j_int ja_nil)))) (ja_cons (j_tup (ja_cons j_int (ja_cons j_int (ja_cons j_int ja_nil)))) ja_nil))))) ja_nil)))) (ja_cons (j_tup (ja_cons j_str (ja_cons j_int (ja_cons (j_tup (ja_cons (j_tup (ja_cons j_int (ja_cons j_int ja_nil))) (ja_cons (j_tup (ja_cons j_int (ja_cons j_int ja_nil))) (ja_cons (j_tup (ja_cons j_int (ja_cons j_int ja_nil))) (ja_cons (j_tup (ja_cons j_int (ja_cons j_int (ja_cons j_int (ja_cons j_int ja_nil))))) (ja_cons (j_tup (ja_cons j_int (ja_cons j_int (ja_cons j_int (ja_cons j_int ja_nil))))) ja_nil)))))) ja_nil)))) ja_nil))))) (jss_cons (js_set 1 nd_42 (j_add (j_var 1) (j_lst (ja_cons (j_tup (ja_cons j_str (ja_cons j_int (ja_cons (j_tup (ja_cons (j_tup (ja_cons j_int (ja_cons j_int ja_nil))) (ja_cons (j_tup (ja_cons j_int (ja_cons j_int ja_nil))) (ja_cons (j_tup (ja_cons j_int (ja_cons j_int ja_nil))) (ja_cons (j_tup (ja_cons j_int (ja_cons j_int (ja_cons j_int ja_nil)))) ja_nil))))) ja_nil)))) (ja_cons (j_tup (ja_cons j_str (ja_cons j_int (ja_cons (j_tup (ja_cons (j_tup (ja_cons j_int (ja_cons j_int ja_nil))) (ja_cons (j_tup (ja_cons j_int (ja_cons j_int ja_nil))) (ja_cons (j_tup (ja_cons j_int (ja_cons j_int ja_nil))) (ja_cons (j_tup (ja_cons j_int (ja_cons j_int (ja_cons j_int ja_nil)))) ja_nil))))) ja_nil)))) ja_nil))))) (jss_cons (js_set 1 nd_42 (j_add (j_var 1) (j_lst (ja_cons (j_tup (ja_cons j_str (ja_cons j_int (ja_cons (j_tup (ja_cons (j_tup (ja_cons j_int (ja_cons j_int ja_nil))) (ja_cons (j_tup (ja_cons j_int (ja_cons j_int ja_nil))) (ja_cons (j_tup (ja_cons j_int (ja_cons j_int (ja_cons j_int (ja_cons j_int ja_nil))))) (ja_cons (j_tup (ja_cons j_int (ja_cons j_int (ja_cons j_int ja_nil)))) ja_nil))))) ja_nil)))) ja_nil)))) (jss_cons (js_for (ji_any (j_add (j_lc [("turn", 4)] nd_42 (ji_rng1 V.f_range (ja_cons j_int ja_nil)) (jct (jc_name 4 nd_42)) jts_nil (j_tup (ja_cons (j_call (cal_law_some V) [true] (by first | decide | omega) (ja_cons (j_var 0) (ja_cons (j_lst (ja_cons j_str (ja_cons j_str (ja_cons j_str ja_nil)))) ja_nil))) (ja_cons (j_add j_int (j_call (cal_law_roll V) [true] (by first | decide | omega) (ja_cons (j_var 0) (ja_cons j_int ja_nil)))) ja_nil)))) (j_lst (ja_cons (j_tup (ja_cons j_str (ja_cons j_int ja_nil))) ja_nil)))) (jgt (jg_tup (jgs_cons (jg_name 2 nd_42) (jgs_cons (jg_name 3 nd_42) jgs_nil)))) (jss_cons (js_expr (j_append 1 (ja_cons (j_tup (ja_cons (j_var 2) (ja_cons (j_var 3) (ja_cons (j_tuple V.f_tuple (ja_cons (j_ix (j_call (cal_law_rows V) [] (by first | decide | omega) (ja_cons (j_var 2) (ja_cons (j_var 3) ja_nil))) j_int) ja_nil)) ja_nil)))) ja_nil))) jss_nil)) (jss_cons (js_ret (j_cmp cx_eq (j_lc [("word", 2), ("many", 3), ("due", 5)] nd_42 (ji_any (j_var 1)) (jct (jc_tup (jcs_cons (jc_name 2 nd_42) (jcs_cons (jc_name 3 nd_42) (jcs_cons (jc_name 5 nd_42) jcs_nil))))) (jts_one (jt_not (jt_val (j_call (cal_law_same V 6) [] (by first | decide | omega) (ja_cons (j_call (cal_pattern V) [] (by first | decide | omega) (ja_cons (j_var 2) (ja_cons (j_var 3) ja_nil))) (ja_cons (j_var 5) ja_nil)))))) j_int) (j_lst ja_nil))) jss_nil))))))
theorem cal_law_written_right {c : Ct} (V : Ev c) : Cal c 8 "_law_written_right" f_law_written_right := by
  obtain ⟨f, fd, F, hm⟩ := V.d_42
  exact cal_of (k := 7) (m := m_law_written_right) (N := N_42) F hm fs_42 (F.bindsN fun _ _ _ _ _ _ us hl => match us, hl with | [_], _ => rfl) fun E => j_law_written_right V
/-! ### law -/
def N_43 : List Str := ["script", "cup", "turn"]
theorem nd_43 : N_43.Nodup := by decide +kernel
theorem fs_43 : FnScope N_43 ["script"] (defScope (top 43)) := ⟨rfl, rfl, rfl, nd_43, rfl, by decide +kernel, by decide +kernel⟩
def m_law : So := (sSeq (sSet 1 (mCall [] f_law_cup (mCons (mVar 0) mNil))) (sSeq (sFor (gNm 2) (mRng1 (mCons (mC (.int 5)) mNil)) (sSeq (sIf (mNot (mTst (mCall [true] f_law_right (mCons (mVar 1) mNil)))) (sSeq (sRet (mC (.bool false))) sSkip) sSkip) sSkip)) (sSeq (sRet (mCall [true] f_law_written_right (mCons (mVar 1) mNil))) sSkip)))
def f_law : Fn := mDef 1 3 m_law
theorem j_law {c : Ct} (V : Ev c) {W : WX} : JSs c W N_43 (sxD (defScope (top 43))) 8 (defBody (top 43)) m_law :=
  (jss_cons (js_set 1 nd_43 (j_call (cal_law_cup V) [] (by first | decide | omega) (ja_cons (j_var 0) ja_nil))) (jss_cons (js_for (ji_rng1 V.f_range (ja_cons j_int ja_nil)) (jgt (jg_name 2 nd_43)) (jss_cons (js_if (jt_not (jt_val (j_call (cal_law_right V) [true] (by first | decide | omega) (ja_cons (j_var 1) ja_nil)))) (jss_cons (js_ret j_bl) jss_nil) jss_nil) jss_nil)) (jss_cons (js_ret (j_call (cal_law_written_right V) [true] (by first | decide | omega) (ja_cons (j_var 1) ja_nil))) jss_nil)))
theorem cal_law {c : Ct} (V : Ev c) : Cal c 9 "law" f_law := by
  obtain ⟨f, fd, F, hm⟩ := V.d_43
  exact cal_of (k := 8) (m := m_law) (N := N_43) F hm fs_43 (F.bindsN fun _ _ _ _ _ _ us hl => match us, hl with | [_], _ => rfl) fun E => j_law V
end L_k31
set_option Elab.async false
set_option linter.all false
set_option maxRecDepth 100000
set_option maxHeartbeats 2000000
namespace L_k31
open PySem PySem.Spec PyProof.Rows L2 Fw
def LET : Str := "abcdefghijklmnopqrstuvwxyz"
def SIG : Str := "abcdefghijklmnopqrstuvwxyz0123456789"
def nmL (l : List Nat) : Bool := match l with
  | [] => false
  | c :: l => decide (l.length ≤ 11) && (strIn (sgn c) LET && (c :: l).all fun c => strIn (sgn c) SIG)
def isNm : D → Bool
  | .str z => nmL z.cps.toList
  | _ => false
def inD (s : Str) : D → D
  | .str t => .bool (strIn t s)
  | _ => .none
theorem inD_all {s : Str} {l : List Nat} : ((l.map fun c => PyData.str (sgn c)).map (inD s)) = l.map fun c => PyData.bool (strIn (sgn c) s) := by
  rw [List.map_map]
  rfl
theorem fits_name_spec {n : Nat} {d : D} (hd : sm n d = true) : wF f_fits_name [.fz d] fun x o => x = .v (.bool (isNm d)) ∧ o = [.un] := by
  refine w_def rfl ?_
  cases d with
  | dict ps => cases n <;> cases hd
  | str z =>
    have hl : z.length ≤ 1000 := smS_len (by simpa using hd)
    simp [m_fits_name, edF]
    obtain ⟨⟨l⟩⟩ := z
    have el : ∀ l : List Nat, (Str.mk ⟨l⟩).length = l.length := fun _ => rfl
    simp [el] at hl ⊢
    refine ⟨by omega, ?_⟩
    cases l with
    | nil => simp; rfl
    | cons c l =>
      have e1 : isNm (.str (Str.mk ⟨c :: l⟩)) = (decide (l.length ≤ 11) && (strIn (sgn c) LET && (c :: l).all fun c => strIn (sgn c) SIG)) := rfl
      rw [e1]
      have e2 : strIn (Str.mk #[c]) (Str.ofString "abcdefghijklmnopqrstuvwxyz") = strIn (sgn c) LET := rfl
      simp only [List.getElem?_toArray, List.length_cons]
      simp [e2]
      split
      · split
        · refine ⟨by omega, ?_⟩
          split
          · refine lc_mp ?_
            simp
            refine ⟨by rw [el, List.length_cons]; omega, inD SIG, ?_, ?_⟩
            · intro d hd
              rw [signs_eq] at hd
              obtain ⟨t, ht, rfl⟩ := List.mem_map.mp hd
              cases hb : strIn (sgn t) SIG
              · left
                exact ⟨congrArg some hb, by simp [inD, hb]⟩
              · right
                exact ⟨congrArg some hb, by simp [inD, hb]⟩
            · simp [signs_eq, inD_all]
              rename_i h1 h2 h3
              have q : (inD SIG (PyData.str (sgn c)) :: List.map (inD SIG ∘ fun c => PyData.str (sgn c)) l) = (c :: l).map fun c => PyData.bool (strIn (sgn c) SIG) := rfl
              rw [q, boolsD_map]
              refine ⟨_, rfl, ?_⟩
              rw [h3, decide_eq_true (p := l.length ≤ 11) (by omega), List.all_map]
              rfl
          · rename_i h
            exact fun _ h2 => absurd h2 h
        · intro h
          omega
      · omega
  | _ => simp [m_fits_name, edF, isNm]
def isTp (lo hi : Int) : D → Bool
  | .tuple ds => decide (lo ≤ (ds.length : Int)) && decide ((ds.length : Int) ≤ hi)
  | _ => false
theorem is_tuple_of_spec {n : Nat} {d : D} (hd : sm n d = true) {lo hi : Int} : wF f_is_tuple_of [.fz d, .fz (.int lo), .fz (.int hi)] fun x o => x = .v (.bool (isTp lo hi d)) ∧ o = [.un, .un, .un] := by
  refine w_def rfl ?_
  cases d with
  | dict ps => cases n <;> cases hd
  | tuple ds =>
    simp [m_is_tuple_of, edF, isTp]
    split
    · simp_all
    · simp_all
      intro _
      omega
  | _ => simp [m_is_tuple_of, edF, isTp]
def areNm (lo hi : Int) : D → Bool
  | .tuple ds => isTp lo hi (.tuple ds) && (ds.all isNm && up ds)
  | _ => false
theorem are_names_spec {n : Nat} {d : D} (hd : sm n d = true) {lo hi : Int} : wF f_are_names [.fz d, .fz (.int lo), .fz (.int hi)] fun x o => x = .v (.bool (areNm lo hi d)) ∧ o = [.un, .un, .un] := by
  refine w_def rfl ?_
  simp [m_are_names, edF]
  refine (is_tuple_of_spec hd).mono ?_
  rintro x o ⟨rfl, rfl⟩
  simp
  cases hT : isTp lo hi d
  · simp
    cases d with
    | tuple ds => simp [areNm, hT]
    | _ => rfl
  cases d with
  | tuple ds =>
    obtain ⟨n, rfl⟩ : ∃ m, n = m + 1 := by
      cases n with
      | zero => simp at hd
      | succ n => exact ⟨n, rfl⟩
    simp only [sm_t, Bool.and_eq_true, List.all_eq_true, decide_eq_true_eq] at hd
    simp only [if_true]
    refine lc_mp ?_
    simp
    refine ⟨by omega, fun d => .bool (isNm d), ?_, ?_⟩
    · intro d hm
      refine (fits_name_spec (hd.2 d hm)).mono ?_
      rintro x o ⟨rfl, rfl⟩
      simp
    · rw [boolsD_map]
      simp
      split
      · rename_i h
        obtain ⟨a, ha, hn⟩ := h
        show (isTp lo hi (.tuple ds) && (ds.all isNm && up ds)) = false
        rw [List.all_eq_false.mpr ⟨a, ha, by simp [hn]⟩]
        simp
      · rename_i h
        have hA : ds.all isNm = true := by
          rw [List.all_eq_true]
          intro x hx
          cases hq : isNm x
          · exact absurd ⟨x, hx, hq⟩ h
          · rfl
        have hS : ∀ x, x ∈ ds → ∃ z, x = .str z := by
          intro x hx
          have := List.all_eq_true.mp hA x hx
          cases x with
          | str z => exact ⟨z, rfl⟩
          | _ => cases this
        refine lc_mp ?_
        simp
        have hz : (zipD ds ds.tail).length ≤ ds.length := zip_len
        refine ⟨by omega, fun p => .bool (ltP p), ?_, ?_⟩
        · intro p hp
          obtain ⟨a, b, ha, hb, rfl⟩ := zip_mem hp
          obtain ⟨za, rfl⟩ := hS a ha
          obtain ⟨zb, rfl⟩ := hS b (List.mem_of_mem_tail hb)
          refine ⟨_, rfl, ?_⟩
          simp [ltP, ltD]
        · rw [boolsD_map]
          have hu := up_zip (ds := ds)
          rw [List.drop_one] at hu
          have hq : (List.map ltP (zipD ds ds.tail)).all id = up ds := by
            rw [List.all_map]
            exact hu
          simp only [Option.some.injEq, exists_eq_left', hq]
          show up ds = (isTp lo hi (.tuple ds) && (ds.all isNm && up ds))
          rw [hT, hA]
          rfl
  | _ => cases hT
theorem sm_tup {n : Nat} {ds : List D} (h : sm n (.tuple ds) = true) : ds.length ≤ 1000 ∧ ∃ m, n = m + 1 ∧ ∀ d, d ∈ ds → sm m d = true := by
  cases n with
  | zero => simp at h
  | succ n =>
    simp only [sm_t, Bool.and_eq_true, List.all_eq_true, decide_eq_true_eq] at h
    exact ⟨h.1, n, rfl, h.2⟩
/-- each of these stands in that tuple -/
def allIn (c : D) : D → Bool
  | .tuple ds => ds.all fun d => match c with
    | .tuple cs => cs.any fun z => PyData.eqv z d
    | _ => false
  | _ => false
def areSm (c v : D) : Bool := areNm 1 40 v && allIn c v
theorem are_some_spec {n m : Nat} {v : D} {cs : List D} (hc : sm m (.tuple cs) = true) (hm : m ≤ 64) (hd : sm n v = true) : wF f_are_some [.fz (.tuple cs), .fz v] fun x o => x = .v (.bool (areSm (.tuple cs) v)) ∧ o = [.un, .un] := by
  refine w_def rfl ?_
  simp [m_are_some, edF]
  refine (are_names_spec hd).mono ?_
  rintro x o ⟨rfl, rfl⟩
  simp
  unfold areSm
  cases hA : areNm 1 40 v
  · simp
  · simp
    cases v with
    | tuple ds =>
      obtain ⟨hl, k, rfl, hk⟩ := sm_tup hd
      obtain ⟨hl2, j, rfl, hj⟩ := sm_tup hc
      refine lc_mp ?_
      simp
      refine ⟨by omega, fun d => .bool (cs.any fun z => PyData.eqv z d), ?_, ?_⟩
      · intro d hd
        rw [dIn_smT (hk d hd) hj (by omega)]
        show (some (cs.any fun z => PyData.eqv z d) = some false ∧ PyData.bool false = PyData.bool (cs.any fun z => PyData.eqv z d)) ∨ (some (cs.any fun z => PyData.eqv z d) = some true ∧ PyData.bool true = PyData.bool (cs.any fun z => PyData.eqv z d))
        generalize (cs.any fun z => PyData.eqv z d) = b
        cases b
        · exact .inl ⟨rfl, rfl⟩
        · exact .inr ⟨rfl, rfl⟩
      · rw [boolsD_map]
        refine ⟨_, rfl, ?_⟩
        rw [List.all_map]
        rfl
    | _ => cases hA
def fst : D → D
  | .tuple (a :: _) => a
  | _ => .none
def rowsUp (rs : List D) : List D := rs.map fst
def snd : D → D
  | .tuple (_ :: b :: _) => b
  | _ => .none
def isTab : D → Bool
  | .tuple [c, .tuple rs] => areNm 0 40 c && (isTp 0 20 (.tuple rs) && rs.all (isTp 2 2) && (areNm 0 20 (.tuple (rowsUp rs)) && rs.all fun r => areSm c (snd r)))
  | _ => false
theorem isTp_get {lo hi : Int} {d : D} (h : isTp lo hi d = true) : ∃ ds, d = .tuple ds ∧ lo ≤ ds.length ∧ (ds.length : Int) ≤ hi := by
  cases d with
  | tuple ds =>
    simp [isTp] at h
    exact ⟨ds, rfl, h.1, h.2⟩
  | _ => cases h
theorem isTp_two {d : D} (h : isTp 2 2 d = true) : ∃ a b, d = .tuple [a, b] := by
  obtain ⟨ds, rfl, h1, h2⟩ := isTp_get h
  match ds, h1, h2 with
  | [], h1, _ => simp at h1
  | [_], h1, _ => simp at h1
  | [a, b], _, _ => exact ⟨a, b, rfl⟩
  | _ :: _ :: _ :: _, _, h2 => simp at h2; omega
theorem isTab_two {d : D} (h : isTp 2 2 d = false) : isTab d = false := by
  unfold isTab
  split
  · simp [isTp] at h
  · rfl
theorem isTab_eq {c : D} {rs : List D} : isTab (.tuple [c, .tuple rs]) = (areNm 0 40 c && (isTp 0 20 (.tuple rs) && rs.all (isTp 2 2) && (areNm 0 20 (.tuple (rowsUp rs)) && rs.all fun r => areSm c (snd r)))) := rfl
theorem sm_row {m : Nat} {r : D} (h : sm m r = true) (h2 : isTp 2 2 r = true) : ∃ a b, r = .tuple [a, b] ∧ sm m a = true ∧ sm m b = true := by
  obtain ⟨a, b, rfl⟩ := isTp_two h2
  obtain ⟨_, k, rfl, hk⟩ := sm_tup h
  exact ⟨a, b, rfl, sm_up (hk a (by simp)) (by omega), sm_up (hk b (by simp)) (by omega)⟩
theorem fits_table_spec {n : Nat} {v : D} (hn : n ≤ 64) (hd : sm n v = true) : wF f_fits_table [.fz v] fun x o => x = .v (.bool (isTab v)) ∧ o = [.un] := by
  refine w_def rfl ?_
  cases h2 : isTp 2 2 v
  · simp [m_fits_table, edF]
    refine (is_tuple_of_spec hd).mono ?_
    rintro x o ⟨rfl, rfl⟩
    simp [h2]
    exact isTab_two h2
  obtain ⟨c, w, rfl⟩ := isTp_two h2
  obtain ⟨_, n, rfl, hs⟩ := sm_tup hd
  have hc := hs c (by simp)
  have hw := hs w (by simp)
  simp [m_fits_table, edF]
  refine (is_tuple_of_spec hd).mono ?_
  rintro x o ⟨rfl, rfl⟩
  simp [h2]
  refine (are_names_spec hc).mono ?_
  rintro x o ⟨rfl, rfl⟩
  simp
  cases hA : areNm 0 40 c
  · simp
    cases w <;> simp [isTab, hA]
  simp
  refine (is_tuple_of_spec hw).mono ?_
  rintro x o ⟨rfl, rfl⟩
  simp
  cases hT : isTp 0 20 w
  · simp
    cases w <;> simp [isTab, hT]
  obtain ⟨rs, rfl, _, _⟩ := isTp_get hT
  obtain ⟨hrl, m, rfl, hr⟩ := sm_tup hw
  simp
  refine lc_mp ?_
  simp
  refine ⟨by omega, fun d => .bool (isTp 2 2 d), ?_, ?_⟩
  · intro d hm
    refine (is_tuple_of_spec (hr d hm)).mono ?_
    rintro x o ⟨rfl, rfl⟩
    simp
  rw [boolsD_map]
  simp
  split
  · rename_i h
    obtain ⟨a, ha, hn⟩ := h
    rw [isTab_eq, List.all_eq_false.mpr ⟨a, ha, by simp [hn]⟩]
    simp
  rename_i h
  have hR : rs.all (isTp 2 2) = true := by
    rw [List.all_eq_true]
    intro x hx
    cases hq : isTp 2 2 x
    · exact absurd ⟨x, hx, hq⟩ h
    · rfl
  have hrow : ∀ r, r ∈ rs → ∃ a b, r = .tuple [a, b] ∧ sm m a = true ∧ sm m b = true := fun r hr2 => sm_row (hr r hr2) (List.all_eq_true.mp hR r hr2)
  refine lc_mp ?_
  simp
  refine ⟨by omega, fst, ?_, ?_⟩
  · intro d hm
    obtain ⟨a, b, rfl, _, _⟩ := hrow d hm
    simp [fst]
  have hF : sm (m + 1) (.tuple (rs.map fst)) = true := by
    simp only [sm_t, Bool.and_eq_true, List.all_eq_true, decide_eq_true_eq, List.length_map]
    refine ⟨hrl, fun d hd => ?_⟩
    obtain ⟨r, hr2, rfl⟩ := List.mem_map.mp hd
    obtain ⟨a, b, rfl, q, _⟩ := hrow r hr2
    exact q
  refine (are_names_spec hF).mono ?_
  rintro x o ⟨rfl, rfl⟩
  simp
  cases hN : areNm 0 20 (.tuple (rs.map fst))
  · simp
    rw [isTab_eq, rowsUp, hN]
    simp
  simp
  refine lc_mp ?_
  simp
  refine ⟨by omega, fun r => .bool (areSm c (snd r)), ?_, ?_⟩
  · intro d hm
    obtain ⟨a, b, rfl, _, hb⟩ := hrow d hm
    obtain ⟨cs, rfl⟩ : ∃ cs, c = .tuple cs := by
      cases c with
      | tuple cs => exact ⟨cs, rfl⟩
      | _ => cases hA
    simp
    refine (are_some_spec hc (by omega) hb).mono ?_
    rintro x o ⟨rfl, rfl⟩
    simp [snd]
  · rw [boolsD_map]
    simp
    rw [isTab_eq, hA, hT, hR, rowsUp, hN]
    simp only [Bool.true_and]
theorem need_table_spec {n : Nat} {v : D} (hn : n ≤ 64) (hd : sm n v = true) (ht : isTab v = true) : wF f_need_table [.fz v] fun x o => x = .v .none ∧ o = [.un] := by
  refine w_def rfl ?_
  simp [m_need_table, edF]
  refine (fits_table_spec hn hd).mono ?_
  rintro x o ⟨rfl, rfl⟩
  simp [ht]
def isSt : D → Bool
  | .str _ => true
  | _ => false
theorem isTab_get {t : D} (h : isTab t = true) : ∃ c rs, t = .tuple [c, .tuple rs] ∧ areNm 0 40 c = true ∧ isTp 0 20 (.tuple rs) = true ∧ rs.all (isTp 2 2) = true ∧ areNm 0 20 (.tuple (rowsUp rs)) = true ∧ rs.all (fun r => areSm c (snd r)) = true := by
  have h' := h
  unfold isTab at h
  split at h
  · rename_i c rs
    simp only [Bool.and_eq_true] at h
    exact ⟨c, rs, rfl, h.1, h.2.1.1, h.2.1.2, h.2.2.1, h.2.2.2⟩
  · cases h
def ascD : D → Bool
  | .tuple ds => ds.all isNm && up ds
  | _ => false
theorem strs_of {ds : List D} (h : ∀ x, x ∈ ds → ∃ z, x = .str z ∧ smS z = true) : ∃ zs : List Str, ds = zs.map .str ∧ ∀ z, z ∈ zs → smS z = true := by
  induction ds with
  | nil => exact ⟨[], rfl, by simp⟩
  | cons d ds ih =>
    obtain ⟨z, rfl, hz⟩ := h d List.mem_cons_self
    obtain ⟨zs, rfl, q⟩ := ih fun x hx => h x (List.mem_cons_of_mem _ hx)
    refine ⟨z :: zs, rfl, fun y hy => ?_⟩
    rcases List.mem_cons.mp hy with rfl | hy
    · exact hz
    · exact q y hy
theorem strsD_map {zs : List Str} : strsD (zs.map .str) = some zs := by
  induction zs with
  | nil => rfl
  | cons z zs ih =>
    show (strsD (zs.map .str)).map (z :: ·) = _
    rw [ih]
    rfl
theorem nm_strs {k : Nat} {ds : List D} (hA : ds.all isNm = true) (hk : ∀ d, d ∈ ds → sm k d = true) : ∃ zs : List Str, ds = zs.map .str ∧ ∀ z, z ∈ zs → smS z = true := by
  refine strs_of fun x hx => ?_
  have h1 := List.all_eq_true.mp hA x hx
  have h2 := hk x hx
  cases x with
  | str z => exact ⟨z, rfl, by simpa using h2⟩
  | _ => cases h1
theorem keysD_map {zs : List Str} : keysD (zs.map .str) = some (zs.map .inr) := by
  induction zs with
  | nil => rfl
  | cons z zs ih =>
    show (keysD (zs.map .str)).map (.inr z :: ·) = _
    rw [ih]
    rfl
theorem sset_strs {zs : List Str} (h : ∀ z, z ∈ zs → smS z = true) (hl : zs.length ≤ 1000) : dSortedSet (.tuple (zs.map .str)) = some (.nw (.list (sortD (dedupD (zs.map .str))))) := by
  have h1 : setOk (zs.map .str) = true := by
    unfold setOk
    rw [keysD_map, List.length_map]
    simpa using hl
  have h2 : sortOk (dedupD (zs.map .str)) = true := by
    rw [dedupD_strs]
    refine sortOk_str (fun d hd => ?_) (by rw [List.length_map]; exact Nat.le_trans dedupS_len hl)
    obtain ⟨z, hz, rfl⟩ := List.mem_map.mp hd
    rcases addS_mem hz with q | q
    · cases q
    · exact ⟨z, rfl, h z q⟩
  show (if (setOk (zs.map .str) && sortOk (dedupD (zs.map .str))) = true then _ else _) = _
  rw [h1, h2]
  rfl
theorem sset_sm {zs : List Str} (h : ∀ z, z ∈ zs → smS z = true) (hl : zs.length ≤ 1000) : sm 1 (.list (sortD (dedupD (zs.map .str)))) = true := by
  simp only [sm_l, Bool.and_eq_true, List.all_eq_true, decide_eq_true_eq, sortD_len]
  rw [dedupD_strs]
  refine ⟨by rw [List.length_map]; exact Nat.le_trans dedupS_len hl, fun d hd => ?_⟩
  obtain ⟨z, hz, rfl⟩ := List.mem_map.mp (sortD_mem.mp hd)
  rcases addS_mem hz with q | q
  · cases q
  · simpa using h z q
theorem areNm_asc {lo hi : Int} {ds : List D} : areNm lo hi (.tuple ds) = (isTp lo hi (.tuple ds) && ascD (.tuple ds)) := rfl
theorem pigeon {zs ys : List Str} (hn : zs.Nodup) (h : ∀ z, z ∈ zs → z ∈ ys) : zs.length ≤ ys.length := by
  induction zs generalizing ys with
  | nil => simp
  | cons z zs ih =>
    obtain ⟨h1, h2⟩ := List.nodup_cons.mp hn
    have hz : z ∈ ys := h z List.mem_cons_self
    have := ih (ys := ys.erase z) h2 fun x hx => by
      have hne : x ≠ z := by rintro rfl; exact h1 hx
      exact (List.mem_erase_of_ne hne).mpr (h x (List.mem_cons_of_mem _ hx))
    have hl := List.length_erase_of_mem hz
    have hp : 0 < ys.length := List.length_pos_of_mem hz
    simp only [List.length_cons]
    omega
theorem any_mem {zs : List Str} {z : Str} (h : ((zs.map PyData.str).any fun x => PyData.eqv x (.str z)) = true) : z ∈ zs := by
  rw [any_str] at h
  exact of_decide_eq_true h
theorem same_bool {n : Nat} {a : Bool} : wF (f_law_same (n + 1)) [.fz (.bool a), .fz (.bool a)] fun x o => x = .v (.bool true) ∧ o = [.un, .un] := by
  refine w_def rfl ?_
  cases a <;> simp [m_law_same, edF]
theorem roll_ok : RollOk f_law_roll := fun c hc n h1 h2 => roll_gen (c1 := 30809) (c2 := 7879) (c3 := 2147482951) (c4 := 241) (c5 := 2147483059) (c6 := 821) (by omega) (by omega) (by omega) (by omega) (by omega) hc h1 h2
theorem some_ok : SomeOk f_law_some := some_gen roll_ok
def PartOk (f : Fn) : Prop := ∀ c, CupOk c → ∀ (t : D) (ds : List D), SeqD t ds → ds.length ≤ 1000 → wF f [.bo c, .fz t] fun x o => ∃ (xs : List D) (c' : D), x = .v (.tuple xs) ∧ xs.Sublist ds ∧ CupOk c' ∧ o = [.bo c', .un]
theorem part_ok : PartOk f_law_part := by
  intro c hc t ds ht hl
  refine w_def rfl ?_
  have hi : itD t = some ds := by rcases ht with rfl | rfl <;> rfl
  simp [m_law_part, edF]
  refine lc_inv ?_
  simp [hi]
  refine ⟨fun i acc e => ∃ c', CupOk c' ∧ acc.Sublist (ds.take i) ∧ e = [.bo c', .fz t, .un], ⟨c, hc, by simp, rfl⟩, ?_, ?_⟩
  · rintro i d acc e hd ⟨c', hc', hs, rfl⟩
    have htk : ds.take (i + 1) = ds.take i ++ [d] := by
      rw [List.take_succ, hd]
      rfl
    refine ⟨_, rfl, ?_⟩
    simp
    refine (roll_ok c' hc' 2 (by omega) (by omega)).mono ?_
    rintro x o ⟨r, c2, rfl, _, _, hc2, rfl⟩
    simp
    have hal : acc.length ≤ 1000 := by
      have := hs.length_le
      simp at this
      omega
    rw [htk]
    split
    · exact ⟨by omega, hc2, List.Sublist.append hs (List.Sublist.refl _)⟩
    · exact ⟨hc2, hs.trans (List.sublist_append_left _ _)⟩
  · rintro acc e ⟨c', hc', hs, rfl⟩
    rw [List.take_length] at hs
    simp
    exact ⟨hs, hc'⟩
def MixedOk (f : Fn) : Prop := ∀ c, CupOk c → ∀ (t : D) (ds : List D), SeqD t ds → ds.length ≤ 1000 → wF f [.bo c, .fz t] fun x o => ∃ (xs : List D) (c' : D), x = .nw (.list xs) ∧ xs.Perm ds ∧ CupOk c' ∧ o = [.bo c', .un]
theorem mixed_ok : MixedOk f_law_mixed := by
  intro c hc t ds ht hl
  refine w_def rfl ?_
  have hi : itD t = some ds := by rcases ht with rfl | rfl <;> rfl
  simp [m_law_mixed, edF, w_for]
  simp [hi]
  refine for_inv (fun i e => ∃ (c' : D) (xs : List D) (s : Sl), CupOk c' ∧ xs.Perm (ds.take i) ∧ e = [.bo c', .fz t, .ow (.list xs), s] ∧ (s = .un ∨ ∃ d, s = .fz d)) ⟨c, [], .un, hc, by simp, rfl, .inl rfl⟩ ?_ ?_
  · rintro i d e hd ⟨c', xs, s, hc', hp, rfl, hs⟩
    have htk : ds.take (i + 1) = ds.take i ++ [d] := by
      rw [List.take_succ, hd]
      rfl
    have hxl : xs.length ≤ 1000 := by
      have := hp.length_eq
      simp at this
      omega
    refine ⟨[.bo c', .fz t, .ow (.list xs), .fz d], by rcases hs with rfl | ⟨d, rfl⟩ <;> rfl, ?_⟩
    simp
    refine (roll_ok c' hc' ((xs.length : Int) + 1) (by omega) (by omega)).mono ?_
    rintro x o ⟨r, c2, rfl, h0, h1, hc2, rfl⟩
    simp
    refine ⟨⟨by omega, h0, by omega⟩, c2, hc2, _, ?_, _, ⟨rfl, rfl, rfl⟩, .inr ⟨_, rfl⟩⟩
    rw [htk]
    have p1 : (xs.take r.toNat ++ d :: xs.drop r.toNat).Perm (d :: xs) := by
      have := List.perm_middle (a := d) (l₁ := xs.take r.toNat) (l₂ := xs.drop r.toNat)
      rwa [List.take_append_drop] at this
    refine p1.trans ((hp.cons d).trans ?_)
    exact (List.perm_append_singleton d (ds.take i)).symm
  · rintro e ⟨c', xs, s, hc', hp, rfl, hs⟩
    rw [List.take_length] at hp
    simp
    exact ⟨hp, hc'⟩
theorem w_itLen {g : List D → Option (List D)} {a s : Sl} {ds : List D} {Q : List D → En → Prop} : wM (mItA g (mCons (mCb dLen (mCons (mVar 1) mNil)) mNil)) [a, .fz (.tuple ds), s] Q = wIt (g [.int (ds.length : Int)]) [a, .fz (.tuple ds), s] Q := by
  simp
/-- what a table's rows are, in texts -/
structure RowS (cs : List Str) (r : D) : Prop where
  ex : ∃ (k : Str) (zs : List Str), r = .tuple [.str k, .tuple (zs.map .str)] ∧ smS k = true ∧ zs ≠ [] ∧ zs.Nodup ∧ (∀ z, z ∈ zs → z ∈ cs) ∧ (∀ z, z ∈ zs → smS z = true) ∧ zs.length ≤ 1000
structure TabS (t : D) (cs : List Str) (rs : List D) : Prop where
  eq : t = .tuple [.tuple (cs.map .str), .tuple rs]
  up : cs.Pairwise fun a b => strLt a b = true
  sm : ∀ z, z ∈ cs → smS z = true
  len : cs.length ≤ 40
  rows : ∀ r, r ∈ rs → RowS cs r
  rlen : rs.length ≤ 20
  nm : ∀ z, z ∈ cs → isNm (.str z) = true
  kinds : ∃ ks : List Str, rowsUp rs = ks.map .str ∧ (ks.Pairwise fun a b => strLt a b = true) ∧ ∀ z, z ∈ ks → isNm (.str z) = true
theorem sort_perm {os cs : List Str} (hp : os.Perm cs) (hu : cs.Pairwise fun a b => strLt a b = true) : sortD (os.map .str) = cs.map .str := by
  rw [sortD_strs]
  congr 1
  refine List.Perm.eq_of_pairwise (le := fun a b => strLe a b = true) (fun a b _ _ x y => strLe_anti x y) (List.pairwise_mergeSort strLe_trans strLe_total _) (hu.imp fun q => (strLt_le.mp q).1) ((List.mergeSort_perm _ _).trans hp)
theorem asc_strs {zs : List Str} (hu : zs.Pairwise fun a b => strLt a b = true) (hn : ∀ z, z ∈ zs → isNm (.str z) = true) : ascD (.tuple (zs.map .str)) = true := by
  show ((zs.map PyData.str).all isNm && up (zs.map PyData.str)) = true
  rw [up_pw.mpr hu, Bool.and_true, List.all_eq_true]
  intro d hd
  obtain ⟨z, hz, rfl⟩ := List.mem_map.mp hd
  exact hn z hz
theorem sub_pw {zs cs : List Str} (hs : zs.Sublist cs) (hu : cs.Pairwise fun a b => strLt a b = true) : zs.Pairwise fun a b => strLt a b = true := hu.sublist hs
theorem isTab_of {t : D} {cs : List Str} {rs : List D} (hs : TabS t cs rs) (hr : ∀ r, r ∈ rs → ascD (snd r) = true) : isTab t = true := by
  have h40 := hs.len
  have h20 := hs.rlen
  obtain ⟨ks, hk, hku, hkn⟩ := hs.kinds
  have e1 : areNm 0 40 (.tuple (cs.map .str)) = true := by
    rw [areNm_asc, asc_strs hs.up hs.nm]
    simp [isTp]
    omega
  have e2 : isTp 0 20 (.tuple rs) = true := by
    simp [isTp]
    omega
  have e3 : rs.all (isTp 2 2) = true := by
    rw [List.all_eq_true]
    intro r hr2
    obtain ⟨k, zs, rfl, _⟩ := (hs.rows r hr2).ex
    rfl
  have hkl : ks.length = rs.length := by
    have := congrArg List.length hk
    unfold rowsUp at this
    simpa using this.symm
  have e4 : areNm 0 20 (.tuple (rowsUp rs)) = true := by
    rw [hk, areNm_asc, asc_strs hku hkn]
    simp [isTp]
    omega
  have e5 : (rs.all fun r => areSm (.tuple (cs.map .str)) (snd r)) = true := by
    rw [List.all_eq_true]
    intro r hr2
    obtain ⟨k, zs, rfl, hk2, h0, hnd, hsub, hz, hzl⟩ := (hs.rows r hr2).ex
    have h3 := hr _ hr2
    have hle := pigeon hnd hsub
    have h0l : 0 < zs.length := List.length_pos_iff.mpr h0
    show (areNm 1 40 (.tuple (zs.map .str)) && _) = true
    rw [areNm_asc, show ascD (.tuple (zs.map .str)) = true from h3]
    have hI : allIn (.tuple (cs.map .str)) (.tuple (zs.map .str)) = true := by
      show ((zs.map PyData.str).all fun d => (cs.map PyData.str).any fun z => PyData.eqv z d) = true
      rw [List.all_eq_true]
      intro d hd
      obtain ⟨z, hz2, rfl⟩ := List.mem_map.mp hd
      rw [any_str]
      exact decide_eq_true (hsub z hz2)
    have hI2 : allIn (.tuple (cs.map .str)) (snd (.tuple [.str k, .tuple (zs.map .str)])) = true := hI
    rw [hI2]
    simp [isTp]
    omega
  rw [hs.eq, isTab_eq, e1, e2, e3, e4, e5]
  rfl
/-- sorted names ascend -/
theorem sort_names {zs : List Str} (hn : zs.Nodup) : ∃ cs : List Str, sortD (zs.map .str) = cs.map .str ∧ cs.Perm zs ∧ cs.Pairwise fun a b => strLt a b = true := by
  refine ⟨zs.mergeSort strLe, sortD_strs, List.mergeSort_perm _ _, ?_⟩
  have hp := List.pairwise_mergeSort (le := strLe) strLe_trans strLe_total zs
  have hn2 : (zs.mergeSort strLe).Nodup := (List.mergeSort_perm zs strLe).nodup_iff.mpr hn
  exact (hp.and hn2).imp fun h => strLt_le.mpr h
theorem strs_sm1 {cs : List Str} (hl : cs.length ≤ 1000) (h : ∀ z, z ∈ cs → smS z = true) : sm 1 (.tuple (cs.map .str)) = true := by
  simp only [sm_t, Bool.and_eq_true, List.all_eq_true, decide_eq_true_eq, List.length_map]
  refine ⟨hl, fun d hd => ?_⟩
  obtain ⟨z, hz, rfl⟩ := List.mem_map.mp hd
  simpa using h z hz
def FzUn (s : Sl) : Prop := s = .un ∨ ∃ d, s = .fz d
theorem fzUn_set {s : Sl} (h : FzUn s) {i : Nat} {t : Sl} {e : En} : putS (some s) i t e = some (e.set i t) := by
  rcases h with rfl | ⟨d, rfl⟩ <;> rfl
theorem unmap {cs : List Str} {xs : List D} (h : xs.Perm (cs.map .str)) : ∃ os : List Str, os.Perm cs ∧ xs = os.map .str := by
  have hx : ∀ x, x ∈ xs → ∃ z, x = .str z := fun x hx => by
    obtain ⟨z, _, rfl⟩ := List.mem_map.mp (h.mem_iff.mp hx)
    exact ⟨z, rfl⟩
  let g : D → Str := fun d => match d with
    | .str z => z
    | _ => ""
  refine ⟨xs.map g, ?_, ?_⟩
  · have q := h.map g
    rw [List.map_map] at q
    have e : cs.map (g ∘ PyData.str) = cs := List.map_id cs
    rwa [e] at q
  · rw [List.map_map]
    have : xs.map id = xs.map (PyData.str ∘ g) := List.map_congr_left fun x hx2 => by
      obtain ⟨z, rfl⟩ := hx x hx2
      rfl
    rw [List.map_id] at this
    exact this
def numS (p : Str) (i : Nat) : Str := p ++ Str.ofString (toString (i : Int))
def numL (p : Str) (n : Nat) : List Str := (List.range n).map (numS p)
theorem num_ok : ∀ i : Fin 41, ((i.val : Int)).natAbs.log2 < 1920 ∧ (Str.ofString (toString (i.val : Int))).length ≤ 10 := by decide +kernel
theorem sort_ok {zs : List Str} (h : ∀ z, z ∈ zs → smS z = true) (hl : zs.length ≤ 1000) : sortOk (zs.map .str) = true := sortOk_str (fun d hd => by
  obtain ⟨z, hz, rfl⟩ := List.mem_map.mp hd
  exact ⟨z, rfl, h z hz⟩) (by rw [List.length_map]; exact hl)
theorem nd_inj {os : List Str} (hn : os.Nodup) {i j : Nat} (hi : i < os.length) (hj : j < os.length) (h : os[i] = os[j]) : i = j := by
  rcases Nat.lt_trichotomy i j with q | q | q
  · exact absurd h (List.pairwise_iff_getElem.mp hn i j hi hj q)
  · exact q
  · exact absurd h.symm (List.pairwise_iff_getElem.mp hn j i hj hi q)
def gN (p : Str) : D → D
  | .int i => .str (p ++ Str.ofString (toString i))
  | d => d
theorem gN_map {p : Str} {n : Nat} : (rngD 0 n).map (gN p) = (numL p n).map .str := by
  unfold rngD numL
  rw [List.map_map, List.map_map]
  refine List.map_congr_left fun k _ => ?_
  show PyData.str (p ++ Str.ofString (toString ((0 : Int) + (k : Int)))) = .str (p ++ Str.ofString (toString (k : Int)))
  rw [Int.zero_add]
theorem strs_atI {zs : List Str} {g : Int} {z : Str} (h0 : 0 ≤ g) (h : zs[g.toNat]? = some z) : atI (zs.map PyData.str) g = some (.str z) := by
  rw [Fw.atI_nn h0, List.getElem?_map, h]
  rfl
end L_k31
set_option Elab.async false
set_option linter.all false
set_option maxRecDepth 100000
set_option maxHeartbeats 2000000
namespace L_k31
open PySem PySem.Spec PyProof.Rows L2 Fw
/-! the rows of each pattern -/
def W5 : List Str := ["ring", "arch", "fork", "comb", "step"]
def lo (w : Str) : Nat := if w = "ring" ∨ w = "fork" then 3 else 4
def hi (w : Str) : Nat := if w = "comb" ∨ w = "step" then 4 else 20
def prs (n : Nat) : List (List Nat) := (List.range n).map fun i => [i, i + 1]
def rgI (a b : Nat) : List Nat := (List.range b).drop a
def due (w : Str) (n : Nat) : List (List Nat) :=
  if w = "ring" then prs (n - 1) ++ [[0, n - 1]]
  else if w = "arch" then prs (n - 2) ++ [[0] ++ rgI 1 (n - 2) ++ [n - 1], rgI 1 (n - 2) ++ [n - 2, n - 1]]
  else if w = "fork" then prs (n - 1) ++ [rgI 1 (n - 1) ++ [n]]
  else if w = "comb" then [[0, 1], [2, 3], [4, 5], [0, 2, 4]] else [[0, 1], [2, 3], [0, 1, 2, 3], [0, 2, 4]]
def cnt (w : Str) (n : Nat) : Nat := if w = "ring" ∨ w = "arch" then n else if w = "fork" then n + 1 else if w = "comb" then 6 else 5
def iD (i : Nat) : D := .int (i : Int)
def rdD (r : List Nat) : D := .tuple (r.map iD)
def isInts : List D → List Nat → Bool
  | [], [] => true
  | .int i :: ds, j :: js => decide (i = (j : Int)) && isInts ds js
  | _, _ => false
theorem isInts_eq : ∀ {ds : List D} {js : List Nat}, isInts ds js = true → ds = js.map iD
  | [], [], _ => rfl
  | d :: ds, j :: js, h => by
    cases d with
    | int i =>
      simp only [isInts, Bool.and_eq_true, decide_eq_true_eq] at h
      rw [List.map_cons, ← isInts_eq h.2, h.1]
      rfl
    | _ => simp [isInts] at h
  | [], _ :: _, h => by simp [isInts] at h
  | _ :: _, [], h => by simp [isInts] at h
def isRows : List D → List (List Nat) → Bool
  | [], [] => true
  | .tuple ds :: rs, j :: js => isInts ds j && isRows rs js
  | _, _ => false
theorem isRows_eq : ∀ {ds : List D} {js : List (List Nat)}, isRows ds js = true → ds = js.map rdD
  | [], [], _ => rfl
  | d :: ds, j :: js, h => by
    cases d with
    | tuple i =>
      simp only [isRows, Bool.and_eq_true] at h
      rw [List.map_cons, ← isRows_eq h.2, isInts_eq h.1]
      rfl
    | _ => simp [isRows] at h
  | [], _ :: _, h => by simp [isRows] at h
  | _ :: _, [], h => by simp [isRows] at h
def chkR (f : Fn) (w : Str) (n : Nat) : Bool := match f [.fz (.str w), .fz (.int n)] with
  | .ok (.v (.tuple [.list rs, .int m])) [.un, .un] => isRows rs (due w n) && decide (m = (cnt w n : Nat))
  | _ => false
theorem chkR_ok {f : Fn} {w : Str} {n : Nat} (h : chkR f w n = true) : wF f [.fz (.str w), .fz (.int n)] fun x o => x = .v (.tuple [.list ((due w n).map rdD), iD (cnt w n)]) ∧ o = [.un, .un] := by
  unfold chkR at h
  split at h
  · rename_i rs m q
    simp only [Bool.and_eq_true, decide_eq_true_eq] at h
    refine wF.of q ⟨?_, rfl⟩
    rw [isRows_eq h.1, h.2]
    rfl
  · cases h
/-- a pattern's word and number -/
def okW (w : Str) (n : Nat) : Bool := decide (w ∈ W5) && (decide (lo w ≤ n) && decide (n ≤ hi w))
theorem rows_chk : ∀ w ∈ W5, ∀ n : Fin 21, okW w n = true → chkR f_rows_by w n = true := by decide +kernel
theorem lrows_chk : ∀ w ∈ W5, ∀ n : Fin 21, okW w n = true → chkR f_law_rows w n = true := by decide +kernel
theorem okW_get {w : Str} {n : Nat} (h : okW w n = true) : w ∈ W5 ∧ lo w ≤ n ∧ n ≤ hi w ∧ n ≤ 20 := by
  unfold okW at h
  simp only [Bool.and_eq_true, decide_eq_true_eq] at h
  refine ⟨h.1, h.2.1, h.2.2, ?_⟩
  have h2 := h.2.2
  unfold hi at h2
  split at h2 <;> omega
theorem rows_by_spec {w : Str} {n : Nat} (h : okW w n = true) : wF f_rows_by [.fz (.str w), .fz (.int n)] fun x o => x = .v (.tuple [.list ((due w n).map rdD), iD (cnt w n)]) ∧ o = [.un, .un] :=
  chkR_ok (rows_chk w (okW_get h).1 ⟨n, by have := (okW_get h).2.2.2; omega⟩ h)
theorem law_rows_spec {w : Str} {n : Nat} (h : okW w n = true) : wF f_law_rows [.fz (.str w), .fz (.int n)] fun x o => x = .v (.tuple [.list ((due w n).map rdD), iD (cnt w n)]) ∧ o = [.un, .un] :=
  chkR_ok (lrows_chk w (okW_get h).1 ⟨n, by have := (okW_get h).2.2.2; omega⟩ h)
/-- what is said of the due rows, by looking at all -/
theorem due_chk : ∀ w ∈ W5, ∀ n : Fin 21, okW w n = true → (due w n).length = n.val ∧ ((due w n).all fun r => decide (r.length ≤ 41) && (r.all fun i => decide (i < cnt w n)) && (List.range (cnt w n)).filter (fun j => decide (j ∈ r)) == r) = true ∧ cnt w n ≤ 21 ∧ 1 ≤ n.val := by decide +kernel
theorem due_ok {w : Str} {n : Nat} (h : okW w n = true) : (due w n).length = n ∧ (∀ r, r ∈ due w n → r.length ≤ 41 ∧ (∀ i, i ∈ r → i < cnt w n) ∧ (List.range (cnt w n)).filter (fun j => decide (j ∈ r)) = r) ∧ cnt w n ≤ 21 ∧ 1 ≤ n := by
  obtain ⟨h1, h2, h3, h4⟩ := due_chk w (okW_get h).1 ⟨n, by have := (okW_get h).2.2.2; omega⟩ h
  refine ⟨h1, fun r hr => ?_, h3, h4⟩
  have := List.all_eq_true.mp h2 r hr
  simp only [Bool.and_eq_true, decide_eq_true_eq, List.all_eq_true, beq_iff_eq] at this
  exact ⟨this.1.1, this.1.2, this.2⟩
end L_k31
set_option Elab.async false
set_option linter.all false
set_option maxRecDepth 100000
set_option maxHeartbeats 1000000
namespace L_k31
open PySem PySem.Spec PyProof.Rows L2 Fw
/-! a table in texts, its dict -/
abbrev Row := Str × List Str
def rowV (q : Row) : D := .tuple (q.2.map .str)
def rowR (q : Row) : D := .tuple [.str q.1, rowV q]
def tabD (cs : List Str) (rows : List Row) : D := .tuple [.tuple (cs.map .str), .tuple (rows.map rowR)]
structure TabW (cs : List Str) (rows : List Row) : Prop where
  clen : cs.length ≤ 40
  csm : ∀ z, z ∈ cs → smS z = true
  rlen : rows.length ≤ 20
  nd : (rows.map (·.1)).Nodup
  ksm : ∀ q, q ∈ rows → smS q.1 = true
  rsm : ∀ q, q ∈ rows → q.2.length ≤ 1000 ∧ ∀ z, z ∈ q.2 → smS z = true
def prsD (rows : List Row) : List (D × D) := rows.map fun q => (.str q.1, rowV q)
def keyR (q : Row) : Key × D := (.inr q.1, rowV q)
theorem pairs_rows : ∀ {rows : List Row}, pairsD (rows.map rowR) = some (rows.map keyR)
  | [] => rfl
  | q :: rows => by
    show (match keyK (.str q.1), pairsD (rows.map rowR) with
      | some k, some x => some ((k, rowV q) :: x)
      | _, _ => none) = _
    rw [pairs_rows]
    rfl
theorem merge_nd : ∀ {rows : List Row} {acc : List (Key × D)}, (rows.map (·.1)).Nodup → (∀ q, q ∈ rows → ∀ p, p ∈ acc → p.1 ≠ .inr q.1) → mergeD2 acc (rows.map keyR) = acc ++ rows.map keyR
  | [], acc, _, _ => by simp [mergeD2]
  | q :: rows, acc, h, h2 => by
    rw [List.map_cons, List.nodup_cons] at h
    have e : putD2 acc (.inr q.1) (rowV q) = acc ++ [keyR q] := by
      unfold putD2
      rw [if_neg]
      · rfl
      · rw [Bool.not_eq_true, List.any_eq_false]
        intro p hp
        simpa using h2 q List.mem_cons_self p hp
    show mergeD2 (putD2 acc (.inr q.1) (rowV q)) (rows.map keyR) = _
    rw [e, merge_nd h.2]
    · simp
    · intro x hx p hp
      rcases List.mem_append.mp hp with hp | hp
      · exact h2 x (List.mem_cons_of_mem _ hx) p hp
      · rw [List.mem_singleton.mp hp]
        intro q2
        have : q.1 = x.1 := by injection q2
        exact h.1 (this ▸ List.mem_map.mpr ⟨x, hx, rfl⟩)
theorem dict_rows {rows : List Row} (h : (rows.map (·.1)).Nodup) : dDict [.list (rows.map rowR)] = some (.nw (dicD (prsD rows))) := by
  show (pairsD (rows.map rowR)).map (fun q => Vx.nw (dicD (kdD (mergeD2 [] q)))) = _
  rw [pairs_rows, Option.map_some, merge_nd h (fun _ _ _ hp => by cases hp), List.nil_append]
  unfold kdD prsD
  rw [List.map_map]
  rfl
def row (rows : List Row) (k : Str) : List Str := match rows.find? fun q => decide (q.1 = k) with
  | some q => q.2
  | none => []
theorem look_rows {k : Str} : ∀ {rows : List Row}, dLook (prsD rows) (.str k) = if k ∈ rows.map (·.1) then some (.tuple ((row rows k).map .str)) else none
  | [] => rfl
  | q :: rows => by
    have ih := look_rows (k := k) (rows := rows)
    unfold dLook prsD row at ih ⊢
    rw [List.map_cons, List.find?_cons, List.find?_cons, List.map_cons]
    dsimp only
    rw [eqv_s]
    by_cases h : q.1 = k
    · have h1 : (q.1 == k) = true := by simpa using h
      rw [h1, decide_eq_true h, if_pos (by simp [h])]
      rfl
    · have h1 : (q.1 == k) = false := by simpa using h
      have h2 : ¬ k = q.1 := fun x => h x.symm
      rw [h1, decide_eq_false h]
      dsimp only
      rw [ih]
      by_cases h3 : k ∈ rows.map (·.1)
      · rw [if_pos h3, if_pos (List.mem_cons_of_mem _ h3)]
      · rw [if_neg h3, if_neg]
        intro h4
        rcases List.mem_cons.mp h4 with h4 | h4
        · exact h2 h4
        · exact h3 h4
theorem list_dict {rows : List Row} : dList [dicD (prsD rows)] = some (.nw (.list ((rows.map (·.1)).map .str))) := by
  show some (Vx.nw (.list ((prsD rows).map (·.1)))) = _
  unfold prsD
  rw [List.map_map, List.map_map]
  rfl
theorem in_dict {rows : List Row} {k : Str} : dIn (.str k) (dicD (prsD rows)) = some (decide (k ∈ rows.map (·.1))) := by
  show (if (keyK (.str k)).isSome = true then some (dLook (prsD rows) (.str k)).isSome else none) = _
  rw [if_pos (show (keyK (.str k)).isSome = true from rfl), look_rows]
  by_cases h : k ∈ rows.map (·.1)
  · rw [if_pos h, decide_eq_true h]
    rfl
  · rw [if_neg h, decide_eq_false h]
    rfl
theorem ix_dict {rows : List Row} {k : Str} (h : k ∈ rows.map (·.1)) : dIxK (dicD (prsD rows)) (.str k) = some (.v (.tuple ((row rows k).map .str))) := by
  show (if (keyK (.str k)).isSome = true then (dLook (prsD rows) (.str k)).map Vx.v else none) = _
  rw [if_pos (show (keyK (.str k)).isSome = true from rfl), look_rows, if_pos h]
  rfl
theorem row_mem {rows : List Row} {k : Str} (h : k ∈ rows.map (·.1)) : ∃ q, q ∈ rows ∧ q.1 = k ∧ row rows k = q.2 := by
  unfold row
  cases hf : rows.find? fun q => decide (q.1 = k) with
  | none =>
    obtain ⟨q, hq, rfl⟩ := List.mem_map.mp h
    have := List.find?_eq_none.mp hf q hq
    simp at this
  | some q => exact ⟨q, List.mem_of_find?_eq_some hf, by simpa using List.find?_some hf, rfl⟩
theorem row_of {rows : List Row} (hn : (rows.map (·.1)).Nodup) {q : Row} (h : q ∈ rows) : row rows q.1 = q.2 := by
  obtain ⟨p, hp, h1, h2⟩ := row_mem (rows := rows) (k := q.1) (List.mem_map.mpr ⟨q, h, rfl⟩)
  rw [h2]
  obtain ⟨i, hi, rfl⟩ := List.mem_iff_getElem.mp hp
  obtain ⟨j, hj, rfl⟩ := List.mem_iff_getElem.mp h
  have : i = j := nd_inj hn (i := i) (j := j) (by simpa using hi) (by simpa using hj) (by simpa using h1)
  subst this
  rfl
/-! texts among data -/
def txt : D → Option Str
  | .str z => some z
  | _ => none
def txts (ds : List D) : List Str := ds.filterMap txt
theorem txts_map {zs : List Str} : txts (zs.map .str) = zs := by
  induction zs with
  | nil => rfl
  | cons z zs ih =>
    show z :: txts (zs.map .str) = _
    rw [ih]
theorem isSt_all : ∀ {ds : List D}, ds.all isSt = true → ds = (txts ds).map .str
  | [], _ => rfl
  | d :: ds, h => by
    rw [List.all_cons, Bool.and_eq_true] at h
    cases d with
    | str z =>
      show _ = PyData.str z :: (txts ds).map .str
      rw [← isSt_all h.2]
    | _ => exact absurd h.1 (by simp [isSt])
theorem all_isSt {zs : List Str} : (zs.map PyData.str).all isSt = true := by
  rw [List.all_eq_true]
  intro d hd
  obtain ⟨z, _, rfl⟩ := List.mem_map.mp hd
  rfl
theorem addS_nd2 : ∀ {zs acc : List Str}, acc.Nodup → (zs.foldl addS acc).length = acc.length + zs.length → (acc ++ zs).Nodup
  | [], acc, h, _ => by simpa using h
  | z :: zs, acc, h, h2 => by
    rw [List.foldl_cons] at h2
    by_cases hz : z ∈ acc
    · have e : addS acc z = acc := if_pos hz
      rw [e] at h2
      have := addS_len (zs := zs) (acc := acc)
      rw [List.length_cons] at h2
      omega
    · have e : addS acc z = acc ++ [z] := if_neg hz
      rw [e] at h2
      have hn : (acc ++ [z]).Nodup := by
        rw [List.nodup_append]
        refine ⟨h, by simp, ?_⟩
        intro a ha b hb
        rw [List.mem_singleton.mp hb]
        rintro rfl
        exact hz ha
      have := addS_nd2 (zs := zs) hn (by rw [h2]; simp; omega)
      simpa using this
theorem dedup_len {zs : List Str} : (dedupS zs).length = zs.length ↔ zs.Nodup := by
  constructor
  · intro h
    have := addS_nd2 (zs := zs) (acc := []) List.nodup_nil (by simpa [dedupS] using h)
    simpa using this
  · intro h
    rw [dedupS_id h]
/-- the places of a row's names -/
def plN (ns r : List Str) : List Nat := (List.range ns.length).filter fun j => match ns[j]? with
  | some z => decide (z ∈ r)
  | none => false
def coreS (cs : List Str) (rows : List Row) (w : Str) (ks ns : List Str) : Bool :=
  okW w ks.length && (ks.all (fun k => decide (k ∈ rows.map (·.1))) && decide ks.Nodup && (ns.all (fun n => decide (n ∈ cs)) && decide ns.Nodup) && (decide (ns.length = cnt w ks.length) && decide (ks.map (fun k => plN ns (row rows k)) = due w ks.length)))
def coreD (cs : List Str) (rows : List Row) : D → Bool
  | .tuple [.str w, .tuple ks, .tuple ns] => ks.all isSt && ns.all isSt && coreS cs rows w (txts ks) (txts ns)
  | _ => false
/-! the comprehension of places -/
theorem enum_get {ds : List D} {n : Nat} : enumD n ds = ds.mapIdx fun i d => .tuple [.int ((n + i : Nat) : Int), d] := by
  induction ds generalizing n with
  | nil => rfl
  | cons d ds ih =>
    rw [List.mapIdx_cons]
    show _ :: enumD (n + 1) ds = _
    rw [ih]
    congr 1
    congr 1
    funext i d
    rw [Nat.add_assoc, Nat.add_comm 1 i]
theorem enum_len {ds : List D} {n : Nat} : (enumD n ds).length = ds.length := by
  rw [enum_get, List.length_mapIdx]
theorem enum_mem {os : List Str} {n : Nat} {d : D} (h : d ∈ enumD n (os.map .str)) : ∃ (i : Nat) (z : Str), d = .tuple [.int ((i : Nat) : Int), .str z] ∧ z ∈ os := by
  induction os generalizing n with
  | nil => cases h
  | cons z os ih =>
    rcases List.mem_cons.mp h with r | r
    · exact ⟨n, z, r, List.mem_cons_self⟩
    · obtain ⟨i, y, h1, h2⟩ := ih r
      exact ⟨i, y, h1, List.mem_cons_of_mem _ h2⟩
def inX (xs : List Str) : D → Option D
  | .tuple [a, .str z] => if z ∈ xs then some a else none
  | _ => none
theorem enum_plc {os xs : List Str} {n : Nat} : (enumD n (os.map PyData.str)).filterMap (inX xs) = (plN os xs).map fun (i : Nat) => PyData.int ((n + i : Nat) : Int) := by
  induction os generalizing n with
  | nil => rfl
  | cons z os ih =>
    have e1 : plN (z :: os) xs = (if z ∈ xs then [0] else []) ++ (plN os xs).map (· + 1) := by
      unfold plN
      rw [List.length_cons, List.range_succ_eq_map, List.filter_cons]
      have e2 : ((List.range os.length).map Nat.succ).filter (fun i => match (z :: os)[i]? with
          | some z => decide (z ∈ xs)
          | none => false) = ((List.range os.length).filter fun i => match os[i]? with
          | some z => decide (z ∈ xs)
          | none => false).map (· + 1) := by
        rw [List.filter_map]
        rfl
      rw [e2]
      by_cases h : z ∈ xs
      · simp [h]
      · simp [h]
    show ((PyData.tuple [.int ((n : Nat) : Int), .str z]) :: enumD (n + 1) (os.map .str)).filterMap (inX xs) = _
    rw [List.filterMap_cons, ih, e1]
    by_cases h : z ∈ xs
    · simp only [inX, h, if_true, List.map_append, List.map_map, List.map_cons, List.map_nil, List.singleton_append]
      congr 1
      refine List.map_congr_left fun i _ => ?_
      simp
      omega
    · simp only [inX, h, if_false, List.map_map, List.nil_append]
      refine List.map_congr_left fun i _ => ?_
      simp
      omega
theorem plN_len {ns r : List Str} : (plN ns r).length ≤ ns.length := by
  have := List.length_filter_le (fun i => match ns[i]? with
    | some z => decide (z ∈ r)
    | none => false) (List.range ns.length)
  rwa [List.length_range] at this
theorem ints_inj : ∀ {a b : List Nat}, PyData.eqvAll (a.map iD) (b.map iD) = decide (a = b)
  | [], [] => by simp
  | [], _ :: _ => by simp
  | _ :: _, [] => by simp
  | x :: a, y :: b => by
    rw [List.map_cons, List.map_cons, eqvAll_c, ints_inj]
    unfold iD
    rw [eqv_i, Bool.eq_iff_iff]
    simp
    omega
theorem rows_inj : ∀ {a b : List (List Nat)}, PyData.eqvAll (a.map rdD) (b.map rdD) = decide (a = b)
  | [], [] => by simp
  | [], _ :: _ => by simp
  | _ :: _, [] => by simp
  | x :: a, y :: b => by
    rw [List.map_cons, List.map_cons, eqvAll_c, rows_inj]
    unfold rdD
    rw [eqv_t, ints_inj, Bool.eq_iff_iff]
    simp
theorem rd_sm {r : List Nat} (h : r.length ≤ 1000) : sm 1 (rdD r) = true := PL.t (n := 0) (k := r.length) ⟨by rw [List.length_map]; omega, fun d hd => by
  obtain ⟨i, _, rfl⟩ := List.mem_map.mp hd
  rfl⟩ h
end L_k31
set_option Elab.async false
set_option linter.all false
set_option maxRecDepth 100000
set_option maxHeartbeats 1000000
namespace L_k31
open PySem PySem.Spec PyProof.Rows L2 Fw
def unl (nm : List Str) : D → Bool
  | .tuple ds => ds.all isSt && ((txts ds).all (fun z => decide (z ∈ nm)) && decide (txts ds).Nodup)
  | _ => false
theorem in_texts {n : Nat} {zs : List Str} {w : Str} {t : D} (ht : SeqD t (zs.map .str)) (hw : smS w = true) (h : ∀ z, z ∈ zs → smS z = true) : dIn (.str w) t = some (decide (w ∈ zs)) := by
  have hz : ∀ d, d ∈ zs.map PyData.str → sm 0 d = true := fun d hd => by
    obtain ⟨y, hy, rfl⟩ := List.mem_map.mp hd
    simpa using h y hy
  rcases ht with rfl | rfl
  · rw [dIn_smL (n := 0) (j := 0) (by simpa using hw) hz (by omega), any_str]
  · rw [dIn_smT (n := 0) (j := 0) (by simpa using hw) hz (by omega), any_str]
def isIn (nm : List Str) : D → Bool
  | .str z => decide (z ∈ nm)
  | _ => false
theorem all_isIn {nm : List Str} : ∀ {ds : List D}, ds.all (isIn nm) = (ds.all isSt && (txts ds).all fun z => decide (z ∈ nm))
  | [] => rfl
  | d :: ds => by
    rw [List.all_cons, List.all_cons, all_isIn]
    cases d with
    | str z =>
      show (decide (z ∈ nm) && _) = (true && _ && (decide (z ∈ nm) && (txts ds).all _))
      cases decide (z ∈ nm) <;> cases ds.all isSt <;> simp
    | _ => rfl
theorem lset_strs {zs : List Str} (hl : zs.length ≤ 1000) : dLenSet (.tuple (zs.map .str)) = some (.v (.int ((dedupS zs).length : Int))) := by
  have h1 : setOk (zs.map .str) = true := by
    unfold setOk
    rw [keysD_map, List.length_map]
    simpa using hl
  show (if setOk (zs.map .str) = true then some (Vx.v (.int (dedupD (zs.map .str)).length)) else none) = _
  rw [if_pos h1, dedupD_strs, List.length_map]
theorem are_unlike_spec {n : Nat} {v t : D} {nm : List Str} (ht : SeqD t (nm.map .str)) (hm : ∀ z, z ∈ nm → smS z = true) (hd : sm n v = true) : wF f_are_unlike [.fz t, .fz v] fun x o => x = .v (.bool (unl nm v)) ∧ o = [.un, .un] := by
  refine w_def rfl ?_
  have eB : m_are_unlike = sSeq (sBad (mOr (mNot (mTst (mUn (isiT "tuple") (mVar 1)))) (mNot (mTst (mCb dAll (mCons (mLc [2] (gNm 2) (mIt (mVar 1)) (mRet true) (mAndV (mUn (isiT "str") (mVar 2)) (mOp (opB dIn) (mVar 2) (mVar 0)))) mNil)))))) (sSeq (sRet (mOp (opB dEq) (mUn dLenSet (mVar 1)) (mCb dLen (mCons (mVar 1) mNil)))) sSkip) := rfl
  rw [eB]
  show wS _ [.fz t, .fz v, .un] _
  cases hT : isiT "tuple" v with
  | none => rw [isi_t (sm_pl hd)] at hT; cases hT
  | some x =>
    rw [isi_t (sm_pl hd)] at hT
    injection hT with hT
    subst hT
    cases v with
    | dict ps => simp at hd
    | tuple ds =>
      obtain ⟨hl, k, rfl, hk⟩ := sm_tup hd
      have hB : EvB (mTst (mCb dAll (mCons (mLc [2] (gNm 2) (mIt (mVar 1)) (mRet true) (mAndV (mUn (isiT "str") (mVar 2)) (mOp (opB dIn) (mVar 2) (mVar 0)))) mNil))) [.fz t, .fz (.tuple ds), .un] (ds.all (isIn nm)) := by
        refine eb_tst (ev_cbV (evs_cons (EvN.toD (d := .list (ds.map fun d => .bool (isIn nm d))) ?_) evs_nil) (by rw [dAll_l, boolsD_map]; simp [List.all_map])).toD
        refine lc_mp ?_
        rw [w_it]
        refine (ev_var (d := .tuple ds) rfl).mono ?_
        rintro x e1 ⟨rfl, rfl⟩
        rw [w_val_v, itD_t, wIt_some]
        refine ⟨rfl, by omega, fun d => .bool (isIn nm d), fun d hd => ⟨_, rfl, ?_⟩, rfl, rfl⟩
        rw [w_ret]
        refine ⟨rfl, ?_⟩
        have hdm := hk d hd
        have hv : EvV (mAndV (mUn (isiT "str") (mVar 2)) (mOp (opB dIn) (mVar 2) (mVar 0))) [.fz t, .fz (.tuple ds), .fz d] (.bool (isIn nm d)) := by
          cases hs : isSt d with
          | false =>
            have : isIn nm d = false := by cases d <;> first | rfl | cases hs
            rw [this]
            refine ev_andVF (eb_tst (ev_unV (ev_var (d := d) rfl).toD ?_).toD)
            rw [isi_s (sm_pl hdm)]
            cases d <;> first | rfl | cases hs
          | true =>
            cases d with
            | str z =>
              refine ev_andVT (eb_tst (ev_unV (ev_var (d := .str z) rfl).toD isi_str_s).toD) ?_
              refine ev_opV (ev_var (d := .str z) rfl).toD (ev_var (d := t) rfl).toD ?_
              rw [opB_some (in_texts (n := 0) ht (by simpa using hdm) hm)]
              rfl
            | _ => cases hs
        refine hv.mono ?_
        rintro x e4 ⟨rfl, rfl⟩
        rw [w_val_v]
        exact ⟨rfl, rfl⟩
      refine sq_bad (eb_orF (eb_not (eb_tst (ev_unV (ev_var (d := .tuple ds) rfl).toD isi_tuple_t).toD)) (eb_not hB)) (fun hb => ?_) fun hb => ?_
      · refine ⟨?_, rfl⟩
        rw [all_isIn] at hb
        have e2 : unl nm (.tuple ds) = (ds.all isSt && ((txts ds).all (fun z => decide (z ∈ nm)) && decide (txts ds).Nodup)) := rfl
        rw [e2, ← Bool.and_assoc]
        generalize (ds.all isSt && (txts ds).all fun z => decide (z ∈ nm)) = p at hb ⊢
        cases p
        · rfl
        · cases hb
      · have ha : ds.all (isIn nm) = true := by simpa using hb
        rw [all_isIn, Bool.and_eq_true] at ha
        have hds := isSt_all ha.1
        have hl2 : (txts ds).length ≤ 1000 := Nat.le_trans (List.length_filterMap_le _ _) hl
        have hlen : ds.length = (txts ds).length := by
          have := congrArg List.length hds
          rwa [List.length_map] at this
        refine sq_ret (ev_opV (a := .int ((dedupS (txts ds)).length : Int)) (b := .int (ds.length : Int)) (z := .bool (unl nm (.tuple ds))) (ev_unV (ev_var (d := .tuple ds) rfl).toD ?_).toD (ev_cbV (evs_cons (ev_var (d := .tuple ds) rfl).toD evs_nil) dLen_t).toD ?_) ⟨rfl, rfl⟩
        · rw [hds, txts_map]
          exact lset_strs hl2
        · rw [opB_some dEq_i]
          congr 3
          have e2 : unl nm (.tuple ds) = (ds.all isSt && ((txts ds).all (fun z => decide (z ∈ nm)) && decide (txts ds).Nodup)) := rfl
          rw [e2, ha.1, ha.2, hlen, Bool.eq_iff_iff, beq_iff_eq]
          simp only [Bool.true_and, decide_eq_true_eq]
          rw [← dedup_len]
          omega
    | _ =>
      refine sq_bad (eb_orT (eb_not (eb_tst (ev_unV (ev_var rfl).toD (isi_t (sm_pl hd))).toD))) (fun _ => ⟨rfl, rfl⟩) fun hb => ?_
      cases hb
/-! the places of all kinds -/
def cE (t v s2 s3 s4 s5 s6 s7 s8 : Sl) : En := [t, v, s2, s3, s4, s5, s6, s7, s8, .un, .un]
def plM (a b : Nat) : Mo Vx := mLc [8] (gNm 8) (mIt (mVar 3)) (mRet true) (mCb dTup (mCons (mLc [a, b] (gTpN 2 (gCn (gNm a) (gCn (gNm b) gNl))) (mEnum (mVar 4)) (mTst (mOp (opB dIn) (mVar b) (mOp dIxK (mVar 5) (mVar 8)))) (mVar a)) mNil))
def gPl (rows : List Row) (ns : List Str) : D → D
  | .str k => rdD (plN ns (row rows k))
  | d => d
theorem pl_spec {a b : Nat} (hab : (a = 9 ∧ b = 10) ∨ (a = 10 ∧ b = 9)) {cs ks ns : List Str} {rows : List Row} (T : TabW cs rows) {t v s2 s6 s7 : Sl} (hk : ∀ k, k ∈ ks → k ∈ rows.map (·.1)) (hkl : ks.length ≤ 1000) (hn : ∀ z, z ∈ ns → smS z = true) (hnl : ns.length ≤ 1000) :
    EvN (plM a b) (cE t v s2 (.fz (.tuple (ks.map .str))) (.fz (.tuple (ns.map .str))) (.ow (dicD (prsD rows))) s6 s7 .un) (.list ((ks.map fun k => plN ns (row rows k)).map rdD)) := by
  have e0 : (ks.map fun k => plN ns (row rows k)).map rdD = (ks.map PyData.str).map (gPl rows ns) := by
    rw [List.map_map, List.map_map]
    rfl
  rw [e0]
  refine lc_mp ?_
  rw [w_it]
  refine (ev_var (d := .tuple (ks.map .str)) rfl).mono ?_
  rintro x e1 ⟨rfl, rfl⟩
  rw [w_val_v, itD_t, wIt_some]
  refine ⟨rfl, by rw [List.length_map]; omega, gPl rows ns, fun d hd => ?_, rfl, rfl⟩
  obtain ⟨k, hkm, rfl⟩ := List.mem_map.mp hd
  refine ⟨cE t v s2 (.fz (.tuple (ks.map .str))) (.fz (.tuple (ns.map .str))) (.ow (dicD (prsD rows))) s6 s7 (.fz (.str k)), rfl, ?_⟩
  rw [w_ret]
  refine ⟨rfl, ?_⟩
  obtain ⟨q, hq, hq1, hrow⟩ := row_mem (hk k hkm)
  have hrs := T.rsm q hq
  have hin : EvN (mLc [a, b] (gTpN 2 (gCn (gNm a) (gCn (gNm b) gNl))) (mEnum (mVar 4)) (mTst (mOp (opB dIn) (mVar b) (mOp dIxK (mVar 5) (mVar 8)))) (mVar a)) (cE t v s2 (.fz (.tuple (ks.map .str))) (.fz (.tuple (ns.map .str))) (.ow (dicD (prsD rows))) s6 s7 (.fz (.str k))) (.list ((plN ns (row rows k)).map iD)) := by
    have e1 : (plN ns (row rows k)).map iD = (enumD 0 (ns.map PyData.str)).filterMap (inX (row rows k)) := by
      rw [enum_plc]
      simp only [Nat.zero_add]
      rfl
    rw [e1]
    refine lc_fm ?_
    rw [w_enum, w_cons]
    refine (ev_var (d := .tuple (ns.map .str)) rfl).mono ?_
    rintro x e1 ⟨rfl, rfl⟩
    rw [w_nil, w_vals_cons, w_val_v, w_vals_nil, wEnm_one, itD_t, Option.map_some, wIt_some]
    rcases hab with ⟨rfl, rfl⟩ | ⟨rfl, rfl⟩
    all_goals
      refine ⟨rfl, by rw [enum_len, List.length_map]; omega, inX (row rows k), fun d hd => ?_, rfl, rfl⟩
      obtain ⟨i, z, rfl, hz⟩ := enum_mem hd
      refine ⟨_, rfl, ?_⟩
      refine wM.mono (Q := fun c e3 => e3 = _ ∧ c = decide (z ∈ row rows k)) (eb_tst (ev_opV (ev_var (d := .str z) rfl).toD (ev_opVr (ev_ow rfl) (ev_var (d := .str k) rfl).toD.rd (ix_dict (hk k hkm))).toD (opB_some (in_texts (n := 0) (.inr rfl) (hn z hz) (by rw [hrow]; exact hrs.2)))).toD) ?_
      rintro c e3 ⟨rfl, rfl⟩
      by_cases hc : z ∈ row rows k
      · rw [if_pos (decide_eq_true hc)]
        refine (ev_var (d := .int i) rfl).mono ?_
        rintro x e4 ⟨rfl, rfl⟩
        rw [w_val_v]
        exact ⟨if_pos hc, rfl⟩
      · rw [if_neg (by simpa using hc)]
        exact ⟨if_neg hc, rfl⟩
  refine (ev_cbV (evs_cons hin.toD evs_nil) dTup_l).mono ?_
  rintro x e4 ⟨rfl, rfl⟩
  rw [w_val_v]
  exact ⟨rfl, rfl⟩
end L_k31
set_option Elab.async false
set_option linter.all false
set_option maxRecDepth 100000
set_option maxHeartbeats 1000000
namespace L_k31
open PySem PySem.Spec PyProof.Rows L2 Fw
theorem tb_in : ∀ q ∈ tb_LEAST ++ tb_MOST, q.1 ∈ W5 := by decide +kernel
theorem tb_none {t : Tb} {w : Str} (ht : ∀ q ∈ t, q.1 ∈ W5) (h : w ∉ W5) : tbGet t w = none := by
  unfold tbGet
  rw [List.find?_eq_none.mpr]
  · rfl
  · intro q hq h2
    have : q.1 = w := by simpa using h2
    exact h (this ▸ ht q hq)
theorem tb_least : ∀ w ∈ W5, tbGet tb_LEAST w = some (.inl (lo w : Nat)) := by decide +kernel
theorem tb_most : ∀ w ∈ W5, tbGet tb_MOST w = some (.inl (hi w : Nat)) := by decide +kernel
theorem in_least {w : Str} : dInT tb_LEAST true (.str w) = some (.v (.bool (!decide (w ∈ W5)))) := by
  show some (Vx.v (.bool (if true = true then !(tbGet tb_LEAST w).isSome else (tbGet tb_LEAST w).isSome))) = _
  rw [if_pos rfl]
  by_cases h : w ∈ W5
  · rw [tb_least w h, decide_eq_true h]
    rfl
  · rw [tb_none (fun q hq => tb_in q (List.mem_append_left _ hq)) h, decide_eq_false h]
    rfl
theorem isTp_three {d : D} (h : isTp 3 3 d = true) : ∃ a b c, d = .tuple [a, b, c] := by
  obtain ⟨ds, rfl, h1, h2⟩ := isTp_get h
  match ds, h1, h2 with
  | [], h1, _ => simp at h1
  | [_], h1, _ => simp at h1
  | [_, _], h1, _ => simp at h1
  | [a, b, c], _, _ => exact ⟨a, b, c, rfl⟩
  | _ :: _ :: _ :: _ :: _, _, h2 => simp at h2; omega
theorem coreD_not3 {cs : List Str} {rows : List Row} {d : D} (h : isTp 3 3 d = false) : coreD cs rows d = false := by
  unfold coreD
  split
  · simp [isTp] at h
  · rfl
def dsOf : D → List D
  | .tuple ds => ds
  | _ => []
/-- what is left to ask when both are unlike names -/
def coreR (rows : List Row) (w : Str) (ks ns : List Str) : Bool := decide (ns.length = cnt w ks.length) && decide (ks.map (fun k => plN ns (row rows k)) = due w ks.length)
theorem coreD_eq {cs : List Str} {rows : List Row} {w : Str} {b c : D} : coreD cs rows (.tuple [.str w, b, c]) = (unl (rows.map (·.1)) b && unl cs c && (okW w (txts (dsOf b)).length && coreR rows w (txts (dsOf b)) (txts (dsOf c)))) := by
  cases b with
  | tuple ks =>
    cases c with
    | tuple ns =>
      show (ks.all isSt && ns.all isSt && (okW w (txts ks).length && ((txts ks).all (fun k => decide (k ∈ rows.map (·.1))) && decide (txts ks).Nodup && ((txts ns).all (fun n => decide (n ∈ cs)) && decide (txts ns).Nodup) && coreR rows w (txts ks) (txts ns)))) =
        ((ks.all isSt && ((txts ks).all (fun k => decide (k ∈ rows.map (·.1))) && decide (txts ks).Nodup)) && (ns.all isSt && ((txts ns).all (fun n => decide (n ∈ cs)) && decide (txts ns).Nodup)) && (okW w (txts ks).length && coreR rows w (txts ks) (txts ns)))
      generalize ks.all isSt = p1
      generalize ns.all isSt = p2
      generalize okW w (txts ks).length = p3
      generalize (txts ks).all (fun k => decide (k ∈ rows.map (·.1))) = p4
      generalize decide (txts ks).Nodup = p5
      generalize (txts ns).all (fun n => decide (n ∈ cs)) = p6
      generalize decide (txts ns).Nodup = p7
      generalize coreR rows w (txts ks) (txts ns) = p8
      cases p1 <;> cases p2 <;> cases p3 <;> cases p4 <;> cases p5 <;> cases p6 <;> cases p7 <;> cases p8 <;> rfl
    | _ =>
      simp [coreD, unl]
  | _ => simp [coreD, unl]
theorem unl_get {nm : List Str} {d : D} {n : Nat} (h : unl nm d = true) (hd : sm n d = true) : ∃ zs : List Str, d = .tuple (zs.map .str) ∧ (∀ z, z ∈ zs → z ∈ nm) ∧ zs.Nodup ∧ zs.length ≤ 1000 ∧ ∀ z, z ∈ zs → smS z = true := by
  cases d with
  | tuple ds =>
    have h' : (ds.all isSt && ((txts ds).all (fun z => decide (z ∈ nm)) && decide (txts ds).Nodup)) = true := h
    simp only [Bool.and_eq_true, decide_eq_true_eq, List.all_eq_true] at h'
    obtain ⟨hl, k, rfl, hk⟩ := sm_tup hd
    have hds := isSt_all (ds := ds) (List.all_eq_true.mpr h'.1)
    refine ⟨txts ds, by rw [← hds], h'.2.1, h'.2.2, Nat.le_trans (List.length_filterMap_le _ _) hl, fun z hz => ?_⟩
    have : PyData.str z ∈ ds := by
      rw [hds]
      exact List.mem_map.mpr ⟨z, hz, rfl⟩
    simpa using hk _ this
  | _ => cases h
/-! the program's judge -/
def fcL : Mo Bool := mOr (mNot (mTst (mCall [] f_is_tuple_of (mCons (mVar 1) (mCons (mC (.int 3)) (mCons (mC (.int 3)) mNil)))))) (mOr (mNot (mTst (mUn (isiT "str") (mOp dIx (mVar 1) (mC (.int 0)))))) (mTst (mUn (dInT tb_LEAST true) (mOp dIx (mVar 1) (mC (.int 0))))))
def dctM : Mo Vx := mCb dDict (mCons (mCb dList (mCons (mOp dIx (mVar 0) (mC (.int 1))) mNil)) mNil)
def fcU : Mo Bool := mOr (mNot (mTst (mCall [] f_are_unlike (mCons (mCb dList (mCons (mVar 5) mNil)) (mCons (mVar 3) mNil))))) (mNot (mTst (mCall [] f_are_unlike (mCons (mOp dIx (mVar 0) (mC (.int 0))) (mCons (mVar 4) mNil)))))
def fcN : Mo Bool := mNot (mTst (mChain dLeX dLeX (mUn (dIxT tb_LEAST) (mVar 2)) (mCb dLen (mCons (mVar 3) mNil)) (mUn (dIxT tb_MOST) (mVar 2))))
def lenB : Mo Bool := mTst (mOp (opB dNe) (mCb dLen (mCons (mVar 4) mNil)) (mVar 7))
def rowsM (f : Fn) : Mo Vx := mCall [] f (mCons (mVar 2) (mCons (mCb dLen (mCons (mVar 3) mNil)) mNil))
def g34 : D → En → Option En := gTpN 3 (gCn (gNm 2) (gCn (gNm 3) (gCn (gNm 4) gNl)))
def g67 : D → En → Option En := gTpN 2 (gCn (gNm 6) (gCn (gNm 7) gNl))
def tailB (f : Fn) (a b : Nat) : So := sSeq (sGet g67 (rowsM f)) (sSeq (sBad lenB) (sSeq (sRet (mOp (opB dEq) (plM a b) (mVar 6))) sSkip))
def fcB : So := sSeq (sBad fcL) (sSeq (sGet g34 (mVar 1)) (sSeq (sSet 5 dctM) (sSeq (sBad fcU) (sSeq (sBad fcN) (tailB f_rows_by 9 10)))))
theorem fc_eq : m_fits_core = fcB := rfl
section
variable {cs : List Str} {rows : List Row} {v : D} {s2 s3 s4 s5 s6 s7 s8 : Sl}
theorem dct_ev (T : TabW cs rows) : EvN dctM (cE (.fz (tabD cs rows)) s2 s3 s4 s5 s6 s7 s8 .un) (dicD (prsD rows)) :=
  ev_cbN (evs_cons (ev_cbN (evs_cons (ev_opV (a := tabD cs rows) (b := .int 1) (ev_var rfl).toD ev_c.toD rfl).toD evs_nil) dList_t).toD evs_nil) (dict_rows T.nd)
theorem cs_seq (T : TabW cs rows) {z : Str} (h : z ∈ rows.map (·.1)) : smS z = true := by
  obtain ⟨q, hq, rfl⟩ := List.mem_map.mp h
  exact T.ksm q hq
/-- the last part of both judges -/
theorem tail_spec (T : TabW cs rows) {f : Fn} {a b : Nat} (hab : (a = 9 ∧ b = 10) ∨ (a = 10 ∧ b = 9)) {w : Str} {ks ns : List Str} (hf : okW w ks.length = true → wF f [.fz (.str w), .fz (.int (ks.length : Nat))] fun x o => x = .v (.tuple [.list ((due w ks.length).map rdD), iD (cnt w ks.length)]) ∧ o = [.un, .un])
    (hok : okW w ks.length = true) (hk : ∀ k, k ∈ ks → k ∈ rows.map (·.1)) (hn : ∀ z, z ∈ ns → smS z = true) (hnl : ns.length ≤ 1000) {Q : Ed}
    (h : ∀ s6 s7, Q.rt (.v (.bool (coreR rows w ks ns))) (cE (.fz (tabD cs rows)) (.fz v) (.fz (.str w)) (.fz (.tuple (ks.map .str))) (.fz (.tuple (ns.map .str))) (.ow (dicD (prsD rows))) s6 s7 .un)) :
    wS (tailB f a b) (cE (.fz (tabD cs rows)) (.fz v) (.fz (.str w)) (.fz (.tuple (ks.map .str))) (.fz (.tuple (ns.map .str))) (.ow (dicD (prsD rows))) .un .un .un) Q := by
  have hkl := (okW_get hok).2.2.2
  obtain ⟨d1, d2, d3, d4⟩ := due_ok hok
  have hlen : ∀ (e : En) (i : Nat) (zs : List Str), e[i]? = some (.fz (.tuple (zs.map .str))) → EvV (mCb dLen (mCons (mVar i) mNil)) e (.int (zs.length : Nat)) := fun e i zs he => by
    refine ev_cbV (evs_cons (ev_var he).toD evs_nil) ?_
    rw [dLen_t, List.length_map]
  refine sq_get (e1 := cE (.fz (tabD cs rows)) (.fz v) (.fz (.str w)) (.fz (.tuple (ks.map .str))) (.fz (.tuple (ns.map .str))) (.ow (dicD (prsD rows))) (.fz (.list ((due w ks.length).map rdD))) (.fz (iD (cnt w ks.length))) .un)
    (ev_calls (evs_cons (ev_var rfl).toD (evs_cons (hlen _ _ ks rfl).toD evs_nil)) (hf hok)).toD rfl ?_
  refine sq_bad (b := !decide (ns.length = cnt w ks.length)) (eb_cmp (hlen _ _ ns rfl).toD (ev_var rfl).toD ?_) (fun hb => ?_) fun hb => ?_
  · unfold iD
    rw [dNe_i]
    congr 2
    rw [Bool.eq_iff_iff]
    simp
    omega
  · have : coreR rows w ks ns = false := by
      unfold coreR
      have hb' : decide (ns.length = cnt w ks.length) = false := by simpa using hb
      rw [hb']
      rfl
    rw [← this]
    exact h _ _
  · have hb' : decide (ns.length = cnt w ks.length) = true := by simpa using hb
    have hr : coreR rows w ks ns = decide (ks.map (fun k => plN ns (row rows k)) = due w ks.length) := by
      unfold coreR
      rw [hb']
      rfl
    refine sq_ret (ev_opV (pl_spec hab T hk (by omega) hn hnl).toD (ev_var rfl).toD ?_) (h _ _)
    have q1 : sm 2 (.list ((ks.map fun k => plN ns (row rows k)).map rdD)) = true := PL.l (n := 1) (k := 20) ⟨by simp; omega, fun d hd => by
      obtain ⟨x, hx, rfl⟩ := List.mem_map.mp hd
      obtain ⟨k, hk2, rfl⟩ := List.mem_map.mp hx
      exact rd_sm (Nat.le_trans plN_len hnl)⟩ (by omega)
    have q2 : sm 2 (.list ((due w ks.length).map rdD)) = true := PL.l (n := 1) (k := 20) ⟨by simp; omega, fun d hd => by
      obtain ⟨x, hx, rfl⟩ := List.mem_map.mp hd
      exact rd_sm (Nat.le_trans (d2 x hx).1 (by omega))⟩ (by omega)
    rw [hr, opB_some (dEq_sm q1 q2 (by omega)), eqv_l, rows_inj]
theorem fits_core_spec (T : TabW cs rows) {n : Nat} (hn : n ≤ 64) (hv : sm n v = true) : wF f_fits_core [.fz (tabD cs rows), .fz v] fun x o => x = .v (.bool (coreD cs rows v)) ∧ o = [.un, .un] := by
  refine w_def rfl ?_
  rw [fc_eq]
  show wS fcB (cE (.fz (tabD cs rows)) (.fz v) .un .un .un .un .un .un .un) _
  have h3 : EvB (mNot (mTst (mCall [] f_is_tuple_of (mCons (mVar 1) (mCons (mC (.int 3)) (mCons (mC (.int 3)) mNil)))))) (cE (.fz (tabD cs rows)) (.fz v) .un .un .un .un .un .un .un) (!isTp 3 3 v) :=
    eb_not (eb_tst (ev_calls (evs_cons (ev_var rfl).toD (evs_cons ev_c.toD (evs_cons ev_c.toD evs_nil))) (is_tuple_of_spec hv)).toD)
  cases hT : isTp 3 3 v with
  | false =>
    rw [hT] at h3
    refine sq_bad (eb_orT h3) (fun _ => ⟨by rw [coreD_not3 hT], rfl⟩) fun hb => by cases hb
  | true =>
    rw [hT] at h3
    obtain ⟨a, b, c, rfl⟩ := isTp_three hT
    obtain ⟨_, m, rfl, hs⟩ := sm_tup hv
    have ha := hs a (by simp)
    have hb := hs b (by simp)
    have hc := hs c (by simp)
    have hv0 : EvD (mOp dIx (mVar 1) (mC (.int 0))) (cE (.fz (tabD cs rows)) (.fz (.tuple [a, b, c])) .un .un .un .un .un .un .un) a := (ev_opV (a := .tuple [a, b, c]) (b := .int 0) (ev_var rfl).toD ev_c.toD rfl).toD
    have hst : EvB (mNot (mTst (mUn (isiT "str") (mOp dIx (mVar 1) (mC (.int 0)))))) (cE (.fz (tabD cs rows)) (.fz (.tuple [a, b, c])) .un .un .un .un .un .un .un) (!(tyD a == "str")) := eb_not (eb_tst (ev_unV hv0 (isi_s (sm_pl ha))).toD)
    cases a with
    | dict ps => simp at ha
    | str w =>
      have hL := eb_orF h3 (eb_orF hst (eb_tst (ev_unV hv0 in_least).toD))
      refine sq_bad hL (fun h => ?_) fun h => ?_
      · refine ⟨?_, rfl⟩
        rw [coreD_eq]
        have h' : decide (w ∈ W5) = false := by simpa using h
        have : okW w (txts (dsOf b)).length = false := by
          unfold okW
          rw [h']
          rfl
        rw [this]
        simp
      have hw : w ∈ W5 := by simpa using h
      refine sq_get (e1 := cE (.fz (tabD cs rows)) (.fz (.tuple [.str w, b, c])) (.fz (.str w)) (.fz b) (.fz c) .un .un .un .un) (ev_var rfl).toD rfl ?_
      refine sq_setN (e1 := cE (.fz (tabD cs rows)) (.fz (.tuple [.str w, b, c])) (.fz (.str w)) (.fz b) (.fz c) (.ow (dicD (prsD rows))) .un .un .un) (dct_ev T) rfl ?_
      have u1 : EvB (mNot (mTst (mCall [] f_are_unlike (mCons (mCb dList (mCons (mVar 5) mNil)) (mCons (mVar 3) mNil))))) (cE (.fz (tabD cs rows)) (.fz (.tuple [.str w, b, c])) (.fz (.str w)) (.fz b) (.fz c) (.ow (dicD (prsD rows))) .un .un .un) (!unl (rows.map (·.1)) b) := by
        have hl : EvN (mCb dList (mCons (mVar 5) mNil)) (cE (.fz (tabD cs rows)) (.fz (.tuple [.str w, b, c])) (.fz (.str w)) (.fz b) (.fz c) (.ow (dicD (prsD rows))) .un .un .un) (.list ((rows.map (·.1)).map .str)) := by
          unfold EvN
          rw [w_cb, w_cons]
          refine (ev_ow (d := dicD (prsD rows)) rfl).mono ?_
          rintro x e1 ⟨rfl, q⟩
          rw [w_nil, ds_cons, q, ds_nil]
          show wL dList (some [dicD (prsD rows)]) _ _
          rw [wL_some, list_dict]
          exact ⟨rfl, rfl⟩
        exact eb_not (eb_tst (ev_calls (evs_cons hl.toD (evs_cons (ev_var rfl).toD evs_nil)) (are_unlike_spec (.inl rfl) (fun z hz => cs_seq T hz) hb)).toD)
      have u2 : EvB (mNot (mTst (mCall [] f_are_unlike (mCons (mOp dIx (mVar 0) (mC (.int 0))) (mCons (mVar 4) mNil))))) (cE (.fz (tabD cs rows)) (.fz (.tuple [.str w, b, c])) (.fz (.str w)) (.fz b) (.fz c) (.ow (dicD (prsD rows))) .un .un .un) (!unl cs c) :=
        eb_not (eb_tst (ev_calls (evs_cons (ev_opV (a := tabD cs rows) (b := .int 0) (ev_var rfl).toD ev_c.toD rfl).toD (evs_cons (ev_var rfl).toD evs_nil)) (are_unlike_spec (.inr rfl) T.csm hc)).toD)
      refine sq_bad (eb_or u1 u2) (fun h => ?_) fun h => ?_
      · refine ⟨?_, rfl⟩
        rw [coreD_eq]
        have : (unl (rows.map (·.1)) b && unl cs c) = false := by
          cases h1 : unl (rows.map (·.1)) b <;> cases h2 : unl cs c <;> rw [h1, h2] at h <;> first | rfl | cases h
        rw [this]
        rfl
      have h12 : unl (rows.map (·.1)) b = true ∧ unl cs c = true := by
        cases h1 : unl (rows.map (·.1)) b <;> cases h2 : unl cs c <;> rw [h1, h2] at h <;> first | exact ⟨rfl, rfl⟩ | cases h
      have hE := coreD_eq (cs := cs) (rows := rows) (w := w) (b := b) (c := c)
      rw [h12.1, h12.2] at hE
      obtain ⟨ks, rfl, hk1, hk2, hk3, hk4⟩ := unl_get h12.1 hb
      obtain ⟨ns, rfl, hn1, hn2, hn3, hn4⟩ := unl_get h12.2 hc
      have e1 : txts (dsOf (.tuple (ks.map .str))) = ks := txts_map
      have e2 : txts (dsOf (.tuple (ns.map .str))) = ns := txts_map
      rw [e1, e2] at hE
      rw [hE]
      refine sq_bad (b := !okW w ks.length) (eb_not (eb_tst ?_)) (fun h => ?_) fun h => ?_
      · have hok : okW w ks.length = (decide ((lo w : Int) ≤ (ks.length : Int)) && decide ((ks.length : Int) ≤ (hi w : Int))) := by
          unfold okW
          rw [decide_eq_true hw, Bool.eq_iff_iff]
          simp
        rw [hok]
        refine (ev_chainI (ev_unV (ev_var (d := .str w) rfl).toD ?_).toD (ev_cbV (evs_cons (ev_var (d := .tuple (ks.map .str)) rfl).toD evs_nil) ?_).toD (ev_unV (ev_var (d := .str w) rfl).toD ?_).toD).toD
        · show (tbGet tb_LEAST w).map (fun v => Vx.v (kD v)) = _
          rw [tb_least w hw]
          rfl
        · rw [dLen_t, List.length_map]
        · show (tbGet tb_MOST w).map (fun v => Vx.v (kD v)) = _
          rw [tb_most w hw]
          rfl
      · refine ⟨?_, rfl⟩
        have : okW w ks.length = false := by simpa using h
        rw [this]
        rfl
      have hok : okW w ks.length = true := by simpa using h
      rw [hok]
      refine tail_spec T (.inl ⟨rfl, rfl⟩) rows_by_spec hok hk1 hn4 hn3 fun _ _ => ?_
      exact ⟨rfl, rfl⟩
    | _ =>
      refine sq_bad (eb_orF h3 (eb_orT hst)) (fun _ => ⟨rfl, rfl⟩) fun hb => by cases hb
end
end L_k31
set_option Elab.async false
set_option linter.all false
set_option maxRecDepth 100000
set_option maxHeartbeats 1000000
namespace L_k31
open PySem PySem.Spec PyProof.Rows L2 Fw
/-! the law's judge -/
def liA : Mo Bool := mOr (mTst (mOp (opB dNin) (mVar 2) (mTup (mCons (mC (.str "ring")) (mCons (mC (.str "arch")) (mCons (mC (.str "fork")) (mCons (mC (.str "comb")) (mCons (mC (.str "step")) mNil)))))))) (mAnd (mTst (mOp (opB dIn) (mVar 2) (mTup (mCons (mC (.str "comb")) (mCons (mC (.str "step")) mNil))))) (mTst (mOp (opB dNe) (mCb dLen (mCons (mVar 3) mNil)) (mC (.int 4)))))
def liN : Mo Bool := mOr (mTst (mOp (opB dGtX) (mCb dLen (mCons (mVar 3) mNil)) (mC (.int 20)))) (mTst (mOp (opB dLtX) (mCb dLen (mCons (mVar 3) mNil)) (mIf (mTst (mOp (opB dIn) (mVar 2) (mTup (mCons (mC (.str "ring")) (mCons (mC (.str "fork")) mNil))))) (mC (.int 3)) (mC (.int 4)))))
def liK : Mo Bool := mOr (mTst (mOp (opB dNe) (mLc [8] (gNm 8) (mIt (mVar 3)) (mTst (mOp (opB dNin) (mVar 8) (mVar 5))) (mVar 8)) (mLst mNil))) (mTst (mOp (opB dNe) (mLc [9] (gNm 9) (mIt (mVar 4)) (mTst (mOp (opB dNin) (mVar 9) (mOp dIx (mVar 0) (mC (.int 0))))) (mVar 9)) (mLst mNil)))
def liS : Mo Bool := mOr (mTst (mOp (opB dLtX) (mCb dLen (mCons (mUn dSortedSet (mVar 3)) mNil)) (mCb dLen (mCons (mVar 3) mNil)))) (mTst (mOp (opB dLtX) (mCb dLen (mCons (mUn dSortedSet (mVar 4)) mNil)) (mCb dLen (mCons (mVar 4) mNil))))
def liB : So := sSeq (sGet g34 (mVar 1)) (sSeq (sBad liA) (sSeq (sBad liN) (sSeq (sSet 5 dctM) (sSeq (sBad liK) (sSeq (sBad liS) (tailB f_law_rows 10 9))))))
theorem li_eq : m_law_is_core = liB := rfl
theorem w5_sm : ∀ z ∈ W5, smS z = true := by decide +kernel
theorem kind_chk : ∀ w ∈ W5, ∀ n : Nat, ((decide (w ∈ (["comb", "step"] : List Str)) && !decide (n = 4)) || (decide (20 < n) || decide (n < if w ∈ (["ring", "fork"] : List Str) then 3 else 4))) = !okW w n := by
  intro w hw n
  have e : ∀ w ∈ W5, (w ∈ (["comb", "step"] : List Str) ∧ lo w = 4 ∧ hi w = 4 ∧ w ∉ (["ring", "fork"] : List Str)) ∨ (w ∉ (["comb", "step"] : List Str) ∧ hi w = 20 ∧ lo w = if w ∈ (["ring", "fork"] : List Str) then 3 else 4) := by decide +kernel
  unfold okW
  rw [decide_eq_true hw, Bool.eq_iff_iff]
  rcases e w hw with ⟨h1, h2, h3, h4⟩ | ⟨h1, h2, h3⟩
  · rw [h2, h3, if_neg h4, decide_eq_true h1]
    simp
    omega
  · rw [← h3, h2, decide_eq_false h1]
    simp
    omega
theorem sset_len {zs : List Str} (h : ∀ z, z ∈ zs → smS z = true) (hl : zs.length ≤ 1000) {e : En} {i : Nat} (he : e[i]? = some (.fz (.tuple (zs.map .str)))) : EvB (mTst (mOp (opB dLtX) (mCb dLen (mCons (mUn dSortedSet (mVar i)) mNil)) (mCb dLen (mCons (mVar i) mNil)))) e (!decide zs.Nodup) := by
  refine eb_cmp (a := .int ((dedupS zs).length : Nat)) (b := .int (zs.length : Nat)) (ev_cbV (evs_cons (ev_unN (ev_var he).toD (sset_strs h hl)).toD evs_nil) ?_).toD (ev_cbV (evs_cons (ev_var he).toD evs_nil) ?_).toD ?_
  · rw [dLen_l, sortD_len, dedupD_strs, List.length_map]
  · rw [dLen_t, List.length_map]
  · show some (decide _) = _
    congr 1
    have h1 := dedup_len (zs := zs)
    have h2 := dedupS_len (zs := zs)
    rw [Bool.eq_iff_iff]
    simp only [decide_eq_true_eq, Bool.not_eq_true', decide_eq_false_iff_not, ← h1]
    omega
theorem bl1 : ∀ a b x y z : Bool, (!a || !b) = true → (true && (a && x && (b && y) && z)) = false := by decide
theorem bl2 : ∀ x y a b z : Bool, (!x || !y) = true → (true && (a && x && (b && y) && z)) = false := by decide
section
variable {cs : List Str} {rows : List Row} {v : D} {s2 s3 s4 s5 s6 s7 s8 : Sl}
theorem empty_flt {ds : List D} {n : Nat} {p : D → Bool} {m : Mo Vx} {e : En} (hl : ds.length ≤ 1000) (hs : ∀ d, d ∈ ds → sm n d = true) (h : EvN m e (.list (ds.filter p))) (hn : n ≤ 60) : EvB (mTst (mOp (opB dNe) m (mLst mNil))) e (!(ds.filter p).isEmpty) :=
  eb_cmp h.toD (ev_lst evs_nil (by simp)).toD (by rw [dNe_sm (sm_filt hl hs) (sm_nil (n := 0)) (by omega), eqv_l, eqv_nil])
def nin (zs : List Str) : D → Bool
  | .str z => !decide (z ∈ zs)
  | _ => false
theorem nin_all {zs ks : List Str} : ((ks.map PyData.str).filter (nin zs)).isEmpty = ks.all fun k => decide (k ∈ zs) := by
  rw [Bool.eq_iff_iff, List.isEmpty_iff, List.filter_eq_nil_iff, List.all_eq_true]
  simp [nin]
theorem law_is_core_spec (T : TabW cs rows) {w : Str} {ks ns : List Str} (hw : smS w = true) (hkl : ks.length ≤ 1000) (hks : ∀ z, z ∈ ks → smS z = true) (hnl : ns.length ≤ 1000) (hns : ∀ z, z ∈ ns → smS z = true) :
    wF f_law_is_core [.fz (tabD cs rows), .fz (.tuple [.str w, .tuple (ks.map .str), .tuple (ns.map .str)])] fun x o => x = .v (.bool (coreS cs rows w ks ns)) ∧ o = [.un, .un] := by
  refine w_def rfl ?_
  rw [li_eq]
  generalize hv : PyData.tuple [.str w, .tuple (ks.map .str), .tuple (ns.map .str)] = v
  show wS liB (cE (.fz (tabD cs rows)) (.fz v) .un .un .un .un .un .un .un) _
  refine sq_get (e1 := cE (.fz (tabD cs rows)) (.fz v) (.fz (.str w)) (.fz (.tuple (ks.map .str))) (.fz (.tuple (ns.map .str))) .un .un .un .un) (ev_var rfl).toD (by rw [← hv]; rfl) ?_
  have eS : coreS cs rows w ks ns = (okW w ks.length && (ks.all (fun k => decide (k ∈ rows.map (·.1))) && decide ks.Nodup && (ns.all (fun n => decide (n ∈ cs)) && decide ns.Nodup) && coreR rows w ks ns)) := rfl
  have hlen : ∀ e : En, e[3]? = some (.fz (.tuple (ks.map .str))) → EvD (mCb dLen (mCons (mVar 3) mNil)) e (.int (ks.length : Nat)) := fun e he => (ev_cbV (evs_cons (ev_var he).toD evs_nil) (by rw [dLen_t, List.length_map])).toD
  have hin : ∀ (e : En) (zs : List Str), e[2]? = some (.fz (.str w)) → (∀ z, z ∈ zs → smS z = true) → ∀ ms, EvL ms e (zs.map .str) → zs.length ≤ 1000 → EvB (mTst (mOp (opB dIn) (mVar 2) (mTup ms))) e (decide (w ∈ zs)) := fun e zs he hz ms hm hl =>
    eb_cmp (ev_var he).toD (ev_tup hm (by rw [List.length_map]; omega)).toD (in_texts (n := 0) (.inr rfl) hw hz)
  have h2 : ∀ z ∈ (["comb", "step"] : List Str), smS z = true := by decide +kernel
  have h3 : ∀ z ∈ (["ring", "fork"] : List Str), smS z = true := by decide +kernel
  have hA : EvB liA (cE (.fz (tabD cs rows)) (.fz v) (.fz (.str w)) (.fz (.tuple (ks.map .str))) (.fz (.tuple (ns.map .str))) .un .un .un .un) (!decide (w ∈ W5) || (decide (w ∈ (["comb", "step"] : List Str)) && !decide (ks.length = 4))) := by
    refine eb_or (eb_cmp (ev_var (d := .str w) rfl).toD (ev_tup (ds := W5.map .str) (evs_cons ev_c.toD (evs_cons ev_c.toD (evs_cons ev_c.toD (evs_cons ev_c.toD (evs_cons ev_c.toD evs_nil))))) (by decide)).toD ?_) (eb_and (hin _ _ rfl h2 _ (evs_cons ev_c.toD (evs_cons ev_c.toD evs_nil)) (by simp)) (eb_cmp (hlen _ rfl) ev_c.toD ?_))
    · show (dIn _ _).map not = _
      rw [in_texts (n := 0) (.inr rfl) hw w5_sm]
      rfl
    · rw [dNe_i]
      congr 2
      rw [Bool.eq_iff_iff]
      simp
      omega
  have hN : EvB liN (cE (.fz (tabD cs rows)) (.fz v) (.fz (.str w)) (.fz (.tuple (ks.map .str))) (.fz (.tuple (ns.map .str))) .un .un .un .un) (decide (20 < ks.length) || decide (ks.length < if w ∈ (["ring", "fork"] : List Str) then 3 else 4)) := by
    refine eb_or (eb_cmp (hlen _ rfl) ev_c.toD ?_) (eb_cmp (b := .int ((if w ∈ (["ring", "fork"] : List Str) then 3 else 4 : Nat) : Int)) (hlen _ rfl) ?_ ?_)
    · show some (decide _) = _
      congr 1
      rw [Bool.eq_iff_iff]
      simp
      omega
    · have hc := hin (cE (.fz (tabD cs rows)) (.fz v) (.fz (.str w)) (.fz (.tuple (ks.map .str))) (.fz (.tuple (ns.map .str))) .un .un .un .un) _ rfl h3 _ (evs_cons ev_c.toD (evs_cons ev_c.toD evs_nil)) (by simp)
      by_cases hm : w ∈ (["ring", "fork"] : List Str)
      · rw [if_pos hm]
        rw [decide_eq_true hm] at hc
        exact ev_ifT hc ev_c.toD
      · rw [if_neg hm]
        rw [decide_eq_false hm] at hc
        exact ev_ifF hc ev_c.toD
    · show some (decide _) = _
      congr 1
      rw [Bool.eq_iff_iff]
      simp
  refine sq_bad hA (fun h => ?_) fun h1 => ?_
  · refine ⟨?_, rfl⟩
    rw [eS]
    have : okW w ks.length = false := by
      by_cases hw5 : w ∈ W5
      · have hk := kind_chk w hw5 ks.length
        rw [decide_eq_true hw5] at h
        have h' : (decide (w ∈ (["comb", "step"] : List Str)) && !decide (ks.length = 4)) = true := by simpa using h
        rw [h'] at hk
        simpa using hk.symm
      · unfold okW
        rw [decide_eq_false hw5]
        rfl
    rw [this]
    rfl
  have hw5 : w ∈ W5 := by
    by_cases hw5 : w ∈ W5
    · exact hw5
    · rw [decide_eq_false hw5] at h1
      cases h1
  have hk := kind_chk w hw5 ks.length
  have h1' : (decide (w ∈ (["comb", "step"] : List Str)) && !decide (ks.length = 4)) = false := by
    rw [decide_eq_true hw5] at h1
    simpa using h1
  rw [h1', Bool.false_or] at hk
  rw [hk] at hN
  refine sq_bad hN (fun h => ?_) fun h => ?_
  · refine ⟨?_, rfl⟩
    have : okW w ks.length = false := by simpa using h
    rw [eS, this]
    rfl
  have hok : okW w ks.length = true := by simpa using h
  rw [eS, hok]
  refine sq_setN (e1 := cE (.fz (tabD cs rows)) (.fz v) (.fz (.str w)) (.fz (.tuple (ks.map .str))) (.fz (.tuple (ns.map .str))) (.ow (dicD (prsD rows))) .un .un .un) (dct_ev T) rfl ?_
  have ksm : ∀ d, d ∈ ks.map PyData.str → sm 0 d = true := fun d hd => by
    obtain ⟨y, hy, rfl⟩ := List.mem_map.mp hd
    simpa using hks y hy
  have nsm : ∀ d, d ∈ ns.map PyData.str → sm 0 d = true := fun d hd => by
    obtain ⟨y, hy, rfl⟩ := List.mem_map.mp hd
    simpa using hns y hy
  have hK : EvB liK (cE (.fz (tabD cs rows)) (.fz v) (.fz (.str w)) (.fz (.tuple (ks.map .str))) (.fz (.tuple (ns.map .str))) (.ow (dicD (prsD rows))) .un .un .un) (!(ks.all fun k => decide (k ∈ rows.map (·.1))) || !(ns.all fun k => decide (k ∈ cs))) := by
    rw [← nin_all, ← nin_all]
    refine eb_or (empty_flt (n := 0) (by rw [List.length_map]; exact hkl) ksm ?_ (by omega)) (empty_flt (n := 0) (by rw [List.length_map]; exact hnl) nsm ?_ (by omega))
    · refine lc_flt ?_
      rw [w_it]
      refine (ev_var (d := .tuple (ks.map .str)) rfl).mono ?_
      rintro x e1 ⟨rfl, rfl⟩
      rw [w_val_v, itD_t, wIt_some]
      refine ⟨rfl, by rw [List.length_map]; omega, nin (rows.map (·.1)), fun d hd => ⟨_, rfl, ?_⟩, rfl, rfl⟩
      obtain ⟨k, hk, rfl⟩ := List.mem_map.mp hd
      refine wM.mono (Q := fun c e3 => e3 = _ ∧ c = !decide (k ∈ rows.map (·.1))) (eb_tst (ev_opVr (b := dicD (prsD rows)) (ev_var (d := .str k) rfl).toD.rd (ev_ow rfl) (opB_some (c := !decide (k ∈ rows.map (·.1))) (by show (dIn _ _).map not = _; rw [in_dict]; rfl))).toD) ?_
      rintro c e3 ⟨rfl, rfl⟩
      refine ⟨rfl, ?_⟩
      have e5 : nin (rows.map (·.1)) (.str k) = !decide (k ∈ rows.map (·.1)) := rfl
      rw [e5]
      split
      · refine (ev_var (d := .str k) rfl).mono ?_
        rintro x e4 ⟨rfl, rfl⟩
        rw [w_val_v]
        exact ⟨rfl, rfl⟩
      · rfl
    · refine lc_flt ?_
      rw [w_it]
      refine (ev_var (d := .tuple (ns.map .str)) rfl).mono ?_
      rintro x e1 ⟨rfl, rfl⟩
      rw [w_val_v, itD_t, wIt_some]
      refine ⟨rfl, by rw [List.length_map]; omega, nin cs, fun d hd => ⟨_, rfl, ?_⟩, rfl, rfl⟩
      obtain ⟨k, hk, rfl⟩ := List.mem_map.mp hd
      refine wM.mono (Q := fun c e3 => e3 = _ ∧ c = !decide (k ∈ cs)) (eb_tst (ev_opV (ev_var (d := .str k) rfl).toD (ev_opV (a := tabD cs rows) (b := .int 0) (ev_var rfl).toD ev_c.toD rfl).toD (opB_some (c := !decide (k ∈ cs)) (by show (dIn _ _).map not = _; rw [in_texts (n := 0) (.inr rfl) (hns k hk) T.csm]; rfl))).toD) ?_
      rintro c e3 ⟨rfl, rfl⟩
      refine ⟨rfl, ?_⟩
      have e5 : nin cs (.str k) = !decide (k ∈ cs) := rfl
      rw [e5]
      split
      · refine (ev_var (d := .str k) rfl).mono ?_
        rintro x e4 ⟨rfl, rfl⟩
        rw [w_val_v]
        exact ⟨rfl, rfl⟩
      · rfl
  have hS : EvB liS (cE (.fz (tabD cs rows)) (.fz v) (.fz (.str w)) (.fz (.tuple (ks.map .str))) (.fz (.tuple (ns.map .str))) (.ow (dicD (prsD rows))) .un .un .un) (!decide ks.Nodup || !decide ns.Nodup) := eb_or (sset_len hks hkl rfl) (sset_len hns hnl rfl)
  refine sq_bad hK (fun h => ?_) fun h => ?_
  · refine ⟨?_, rfl⟩
    rw [bl1 _ _ _ _ _ h]
  refine sq_bad hS (fun h2 => ?_) fun h2 => ?_
  · refine ⟨?_, rfl⟩
    rw [bl2 _ _ _ _ _ h2]
  have hka : (ks.all fun k => decide (k ∈ rows.map (·.1))) = true := by
    cases hq : (ks.all fun k => decide (k ∈ rows.map (·.1)))
    · rw [hq] at h; cases h
    · rfl
  have hna : (ns.all fun k => decide (k ∈ cs)) = true := by
    cases hq : (ns.all fun k => decide (k ∈ cs))
    · rw [hka, hq] at h; cases h
    · rfl
  have hkd : decide ks.Nodup = true := by
    cases hq : decide ks.Nodup
    · rw [hq] at h2; cases h2
    · rfl
  have hnd : decide ns.Nodup = true := by
    cases hq : decide ns.Nodup
    · rw [hkd, hq] at h2; cases h2
    · rfl
  rw [hka, hna, hkd, hnd]
  refine tail_spec T (.inr ⟨rfl, rfl⟩) law_rows_spec hok (fun k hk => by simpa using List.all_eq_true.mp hka k hk) hns hnl fun _ _ => ?_
  exact ⟨rfl, rfl⟩
end
end L_k31
set_option Elab.async false
set_option linter.all false
set_option maxRecDepth 100000
set_option maxHeartbeats 1000000
namespace L_k31
open PySem PySem.Spec PyProof.Rows L2 Fw
def ljG : Mo Bool := mOr (mNot (mTst (mUn (isiT "tuple") (mVar 1)))) (mOr (mTst (mOp (opB dNe) (mCb dLen (mCons (mVar 1) mNil)) (mC (.int 3)))) (mNot (mTst (mUn (isiT "str") (mOp dIx (mVar 1) (mC (.int 0)))))))
def ljS : Mo Bool := mOr (mNot (mTst (mUn (isiT "tuple") (mVar 2)))) (mTst (mOp (opB dNe) (mLc [3] (gNm 3) (mIt (mVar 2)) (mNot (mTst (mUn (isiT "str") (mVar 3)))) (mVar 3)) (mLst mNil)))
def ljB : So := sSeq (sBad ljG) (sSeq (sFor (gNm 2) (mIt (mSl dSl (mVar 1) (mPart (mC (.int 1))) mNoPart)) (sSeq (sBad ljS) sSkip)) (sSeq (sRet (mCall [] f_law_is_core (mCons (mVar 0) (mCons (mVar 1) mNil)))) sSkip))
theorem lj_eq : m_law_judge = ljB := rfl
def tupSt : D → Bool
  | .tuple ds => ds.all isSt
  | _ => false
theorem tupSt_get {d : D} {n : Nat} (h : tupSt d = true) (hd : sm n d = true) : ∃ zs : List Str, d = .tuple (zs.map .str) ∧ zs.length ≤ 1000 ∧ ∀ z, z ∈ zs → smS z = true := by
  cases d with
  | tuple ds =>
    obtain ⟨hl, k, rfl, hk⟩ := sm_tup hd
    have hds := isSt_all (ds := ds) h
    refine ⟨txts ds, by rw [← hds], Nat.le_trans (List.length_filterMap_le _ _) hl, fun z hz => ?_⟩
    have : PyData.str z ∈ ds := by
      rw [hds]
      exact List.mem_map.mpr ⟨z, hz, rfl⟩
    simpa using hk _ this
  | _ => cases h
theorem not_st : ∀ {ds : List D}, (ds.filter fun d => !isSt d).isEmpty = ds.all isSt := by
  intro ds
  rw [Bool.eq_iff_iff, List.isEmpty_iff, List.filter_eq_nil_iff, List.all_eq_true]
  simp
theorem st_ty {d : D} : (tyD d == "str") = isSt d := by
  cases d with
  | dict ps =>
    match ps with
    | [] => rfl
    | (a, b) :: r =>
      unfold tyD
      split <;> first | rfl | simp_all
  | _ => rfl
theorem ljS_ev {t v d : D} {n : Nat} {s3 : Sl} (hd : sm n d = true) (hn : n ≤ 60) : EvB ljS [.fz t, .fz v, .fz d, .un] (!tupSt d) := by
  have h0 : EvB (mNot (mTst (mUn (isiT "tuple") (mVar 2)))) [.fz t, .fz v, .fz d, .un] (!(tyD d == "tuple")) := eb_not (eb_tst (ev_unV (ev_var rfl).toD (isi_t (sm_pl hd))).toD)
  cases d with
  | dict ps => simp at hd
  | tuple ds =>
    obtain ⟨hl, k, rfl, hk⟩ := sm_tup hd
    refine eb_orF h0 ?_
    have e : tupSt (.tuple ds) = (ds.filter fun d => !isSt d).isEmpty := not_st.symm
    rw [e]
    refine empty_flt hl hk ?_ (by omega)
    refine lc_flt ?_
    rw [w_it]
    refine (ev_var (d := .tuple ds) rfl).mono ?_
    rintro x e1 ⟨rfl, rfl⟩
    rw [w_val_v, itD_t, wIt_some]
    refine ⟨rfl, by omega, fun d => !isSt d, fun d hd => ⟨_, rfl, ?_⟩, rfl, rfl⟩
    refine wM.mono (Q := fun c e3 => e3 = _ ∧ c = !(tyD d == "str")) (eb_not (eb_tst (ev_unV (ev_var (d := d) rfl).toD (isi_s (sm_pl (hk d hd)))).toD)) ?_
    rintro c e3 ⟨rfl, rfl⟩
    rw [st_ty]
    refine ⟨rfl, ?_⟩
    split
    · refine (ev_var (d := d) rfl).mono ?_
      rintro x e4 ⟨rfl, rfl⟩
      rw [w_val_v]
      exact ⟨rfl, rfl⟩
    · rfl
  | _ => exact eb_orT h0
section
variable {cs : List Str} {rows : List Row} {v : D}
theorem coreD_tup {w : Str} {b c : D} (h : coreD cs rows (.tuple [.str w, b, c]) = true) : tupSt b = true ∧ tupSt c = true := by
  rw [coreD_eq] at h
  simp only [Bool.and_eq_true] at h
  have q : ∀ {nm : List Str} {d : D}, unl nm d = true → tupSt d = true := fun {nm d} h => by
    cases d with
    | tuple ds =>
      have h' : (ds.all isSt && ((txts ds).all (fun z => decide (z ∈ nm)) && decide (txts ds).Nodup)) = true := h
      exact (Bool.and_eq_true_iff.mp h').1
    | _ => cases h
  exact ⟨q h.1.1, q h.1.2⟩
theorem coreD_f {w : Str} {b c : D} (h : tupSt b = false ∨ tupSt c = false) : coreD cs rows (.tuple [.str w, b, c]) = false := by
  cases hq : coreD cs rows (.tuple [.str w, b, c]) with
  | false => rfl
  | true =>
    obtain ⟨h1, h2⟩ := coreD_tup hq
    rcases h with h | h
    · rw [h1] at h; cases h
    · rw [h2] at h; cases h
theorem law_judge_spec (T : TabW cs rows) {n : Nat} (hn : n ≤ 60) (hv : sm n v = true) : wF f_law_judge [.fz (tabD cs rows), .fz v] fun x o => x = .v (.bool (coreD cs rows v)) ∧ o = [.un, .un] := by
  refine w_def rfl ?_
  rw [lj_eq]
  show wS ljB [.fz (tabD cs rows), .fz v, .un, .un] _
  have h0 : EvB (mNot (mTst (mUn (isiT "tuple") (mVar 1)))) [.fz (tabD cs rows), .fz v, .un, .un] (!(tyD v == "tuple")) := eb_not (eb_tst (ev_unV (ev_var rfl).toD (isi_t (sm_pl hv))).toD)
  cases hT : isTp 3 3 v with
  | false =>
    refine sq_bad (b := true) ?_ (fun _ => ⟨by rw [coreD_not3 hT], rfl⟩) fun hb => by cases hb
    cases v with
    | dict ps => simp at hv
    | tuple ds =>
      refine eb_orF h0 (eb_orT (eb_cmp (a := .int (ds.length : Nat)) (ev_cbV (evs_cons (ev_var rfl).toD evs_nil) dLen_t).toD ev_c.toD ?_))
      rw [dNe_i]
      congr 1
      have : ¬ (ds.length : Int) = 3 := by
        intro h
        simp [isTp] at hT
        omega
      simpa using this
    | _ => exact eb_orT h0
  | true =>
    obtain ⟨a, b, c, rfl⟩ := isTp_three hT
    obtain ⟨_, m, rfl, hs⟩ := sm_tup hv
    have ha := hs a (by simp)
    have hb := hs b (by simp)
    have hc := hs c (by simp)
    have hG : EvB ljG [.fz (tabD cs rows), .fz (.tuple [a, b, c]), .un, .un] (!isSt a) := by
      refine eb_orF h0 (eb_orF (eb_cmp (a := .int 3) (ev_cbV (evs_cons (ev_var (d := .tuple [a, b, c]) rfl).toD evs_nil) rfl).toD ev_c.toD (by rw [dNe_i]; rfl)) ?_)
      rw [← st_ty]
      exact eb_not (eb_tst (ev_unV (ev_opV (a := .tuple [a, b, c]) (b := .int 0) (z := a) (ev_var rfl).toD ev_c.toD rfl).toD (isi_s (sm_pl ha))).toD)
    refine sq_bad hG (fun h => ?_) fun h => ?_
    · refine ⟨?_, rfl⟩
      cases a with
      | str w => cases h
      | _ => rfl
    cases a with
    | str w =>
      rw [w_seq, w_for, w_it]
      refine (ev_slT (ds := [.str w, b, c]) (ev_var rfl).toD (ep_some ev_c.toD) ep_none).mono ?_
      rintro x e1 ⟨rfl, rfl⟩
      rw [w_val_v, itD_t, wIt_some]
      have hcut : Fw.cutD [PyData.str w, b, c] (some 1) none = [b, c] := rfl
      rw [hcut, for_cons (e1 := [.fz (tabD cs rows), .fz (.tuple [.str w, b, c]), .fz b, .un]) rfl]
      refine sq_bad (ljS_ev (s3 := .un) hb (by omega)) (fun h => ?_) fun h => ?_
      · exact ⟨by rw [coreD_f (.inl (by simpa using h))], rfl⟩
      rw [w_skip]
      show wS (forL (gNm 2) (sSeq (sBad ljS) sSkip) [c]) _ _
      rw [for_cons (e1 := [.fz (tabD cs rows), .fz (.tuple [.str w, b, c]), .fz c, .un]) rfl]
      refine sq_bad (ljS_ev (s3 := .un) hc (by omega)) (fun h => ?_) fun h2 => ?_
      · exact ⟨by rw [coreD_f (.inr (by simpa using h))], rfl⟩
      rw [w_skip]
      show wS (forL (gNm 2) (sSeq (sBad ljS) sSkip) []) _ _
      rw [for_nil]
      obtain ⟨ks, rfl, k1, k2⟩ := tupSt_get (d := b) (by simpa using h) hb
      obtain ⟨ns, rfl, n1, n2⟩ := tupSt_get (d := c) (by simpa using h2) hc
      have e : coreD cs rows (.tuple [.str w, .tuple (ks.map .str), .tuple (ns.map .str)]) = coreS cs rows w ks ns := by
        show ((ks.map PyData.str).all isSt && (ns.map PyData.str).all isSt && coreS cs rows w (txts (ks.map .str)) (txts (ns.map .str))) = _
        rw [all_isSt, all_isSt, txts_map, txts_map]
        rfl
      rw [e]
      exact sq_ret (ev_calls (evs_cons (ev_var rfl).toD (evs_cons (ev_var rfl).toD evs_nil)) (law_is_core_spec T (by simpa using ha) k1 k2 n1 n2)) ⟨rfl, rfl⟩
    | _ => cases h
end
end L_k31
set_option Elab.async false
set_option linter.all false
set_option maxRecDepth 100000
set_option maxHeartbeats 1000000
namespace L_k31
open PySem PySem.Spec PyProof.Rows L2 Fw
open PySem.W (dataLe alike alikeAll dataLt dataLt_tuple dataLt_cons dataLt_str not_lt_str)
theorem is_core_spec {cs : List Str} {rows : List Row} {v : D} (T : TabW cs rows) (ht : isTab (tabD cs rows) = true) (hts : sm 4 (tabD cs rows) = true) {n : Nat} (hn : n ≤ 60) (hv : sm n v = true) : wF f_is_core [.fz (tabD cs rows), .fz v] fun x o => x = .v (.bool (coreD cs rows v)) ∧ o = [.un, .un] := by
  refine w_def rfl ?_
  have eB : m_is_core = sSeq (sDrop (mCall [] f_need_table (mCons (mVar 0) mNil))) (sSeq (sRet (mCall [] f_fits_core (mCons (mVar 0) (mCons (mVar 1) mNil)))) sSkip) := rfl
  rw [eB]
  show wS _ [.fz (tabD cs rows), .fz v] _
  rw [w_seq, w_drop]
  refine (ev_calls (evs_cons (ev_var rfl).toD evs_nil) (need_table_spec (n := 4) (by omega) hts ht)).mono ?_
  rintro x e1 ⟨rfl, rfl⟩
  exact sq_ret (ev_calls (evs_cons (ev_var rfl).toD (evs_cons (ev_var rfl).toD evs_nil)) (fits_core_spec T (by omega) hv)) ⟨rfl, rfl⟩
/-! a good table -/
structure TabG (cs : List Str) (rows : List Row) : Prop where
  cup : cs.Pairwise fun a b => strLt a b = true
  clen : cs.length ≤ 40
  cok : ∀ z, z ∈ cs → isNm (.str z) = true ∧ smS z = true
  kup : (rows.map (·.1)).Pairwise fun a b => strLt a b = true
  klen : rows.length ≤ 20
  kok : ∀ q, q ∈ rows → isNm (.str q.1) = true ∧ smS q.1 = true
  rup : ∀ q, q ∈ rows → q.2.Pairwise fun a b => strLt a b = true
  rne : ∀ q, q ∈ rows → q.2 ≠ []
  rin : ∀ q, q ∈ rows → ∀ z, z ∈ q.2 → z ∈ cs
theorem pw_nd {zs : List Str} (h : zs.Pairwise fun a b => strLt a b = true) : zs.Nodup := h.imp fun q => (strLt_le.mp q).2
section
variable {cs : List Str} {rows : List Row}
theorem TabG.rlen (T : TabG cs rows) {q : Row} (h : q ∈ rows) : q.2.length ≤ 40 := Nat.le_trans (pigeon (pw_nd (T.rup q h)) (T.rin q h)) T.clen
theorem TabG.w (T : TabG cs rows) : TabW cs rows where
  clen := T.clen
  csm := fun z hz => (T.cok z hz).2
  rlen := T.klen
  nd := pw_nd T.kup
  ksm := fun q hq => (T.kok q hq).2
  rsm := fun q hq => ⟨by have := T.rlen hq; omega, fun z hz => (T.cok z (T.rin q hq z hz)).2⟩
theorem TabG.is (T : TabG cs rows) : isTab (tabD cs rows) = true := by
  refine isTab_of (cs := cs) (rs := rows.map rowR) ⟨rfl, T.cup, fun z hz => (T.cok z hz).2, T.clen, ?_, by rw [List.length_map]; exact T.klen, fun z hz => (T.cok z hz).1, rows.map (·.1), ?_, T.kup, ?_⟩ ?_
  · intro r hr
    obtain ⟨q, hq, rfl⟩ := List.mem_map.mp hr
    exact ⟨q.1, q.2, rfl, (T.kok q hq).2, T.rne q hq, pw_nd (T.rup q hq), T.rin q hq, fun z hz => (T.cok z (T.rin q hq z hz)).2, by have := T.rlen hq; omega⟩
  · unfold rowsUp
    rw [List.map_map, List.map_map]
    rfl
  · intro z hz
    obtain ⟨q, hq, rfl⟩ := List.mem_map.mp hz
    exact (T.kok q hq).1
  · intro r hr
    obtain ⟨q, hq, rfl⟩ := List.mem_map.mp hr
    exact asc_strs (T.rup q hq) fun z hz => (T.cok z (T.rin q hq z hz)).1
theorem TabG.rows_pl (T : TabG cs rows) : PL 2 20 (rows.map rowR) := ⟨by rw [List.length_map]; exact T.klen, fun d hd => by
  obtain ⟨q, hq, rfl⟩ := List.mem_map.mp hd
  exact PL.t (k := 2) (PL.cons (by rw [sm_s]; exact (T.kok q hq).2) (PL.cons (strs_sm1 (by have := T.rlen hq; omega) fun z hz => (T.cok z (T.rin q hq z hz)).2) PL.nil)) (by omega)⟩
theorem TabG.sm (T : TabG cs rows) : sm 4 (tabD cs rows) = true := PL.t (k := 2) (PL.cons (sm_up (strs_sm1 (by have := T.clen; omega) fun z hz => (T.cok z hz).2) (by omega)) (PL.cons (PL.t T.rows_pl (by omega)) PL.nil)) (by omega)
end
/-! rows sorted by their kinds -/
theorem rowLe {a b : Row} (h : a.1 = b.1 → a = b) : strLe a.1 b.1 = dataLe false id (rowR a) (rowR b) := by
  show _ = !dataLt (rowR b) (rowR a)
  by_cases e : a.1 = b.1
  · rw [h e]
    have e1 : dataLt (rowR b) (rowR b) = false := PyProof.Rows.lex_irrefl _
    rw [e1]
    have := strLe_total b.1 b.1
    simpa using this
  · unfold rowR
    rw [dataLt_tuple, dataLt_cons (by simp [alike]), if_neg (by rw [eqv_s]; simpa using fun q : b.1 = a.1 => e q.symm), dataLt_str, not_lt_str]
    rfl
theorem sort_rows {rows : List Row} (hn : (rows.map (·.1)).Nodup) : ∃ out : List Row, sortD (rows.map rowR) = out.map rowR ∧ out.Perm rows ∧ (out.map (·.1)).Pairwise fun a b => strLt a b = true := by
  refine ⟨rows.mergeSort fun a b => strLe a.1 b.1, ?_, List.mergeSort_perm _ _, ?_⟩
  · unfold sortD
    refine (List.map_mergeSort (r := fun a b : Row => strLe a.1 b.1) (s := dataLe false id) (f := rowR) (l := rows) ?_).symm
    intro a ha b hb
    refine rowLe fun e => ?_
    obtain ⟨i, hi, rfl⟩ := List.mem_iff_getElem.mp ha
    obtain ⟨j, hj, rfl⟩ := List.mem_iff_getElem.mp hb
    have : i = j := nd_inj hn (i := i) (j := j) (by simpa using hi) (by simpa using hj) (by simpa using e)
    subst this
    rfl
  · have hp := List.pairwise_mergeSort (le := fun a b : Row => strLe a.1 b.1) (fun a b c => strLe_trans a.1 b.1 c.1) (fun a b => strLe_total a.1 b.1) rows
    have hn2 : ((rows.mergeSort fun a b => strLe a.1 b.1).map (·.1)).Nodup := ((List.mergeSort_perm rows _).map _).nodup_iff.mpr hn
    rw [List.pairwise_map]
    have hn3 := List.pairwise_map.mp hn2
    exact (hp.and hn3).imp fun h => strLt_le.mpr h
theorem alike_strs : ∀ {xs ys : List Str}, alikeAll (xs.map .str) (ys.map .str) = true
  | [], _ => by cases ‹List Str› <;> rfl
  | _ :: _, [] => rfl
  | x :: xs, y :: ys => by
    rw [List.map_cons, List.map_cons, alikeAll, alike_strs]
    rfl
theorem rows_ok {rows : List Row} (hl : rows.length ≤ 1000) (hs : ∀ d, d ∈ rows.map rowR → sm 2 d = true) : sortOk (rows.map rowR) = true := by
  unfold sortOk
  simp only [Bool.and_eq_true, Bool.or_eq_true, List.all_eq_true, decide_eq_true_eq]
  refine ⟨⟨⟨?_, .inl ?_⟩, ?_⟩, by rw [sizeLine_eq, List.length_map]; omega⟩
  · intro d hd e he
    obtain ⟨a, _, rfl⟩ := List.mem_map.mp hd
    obtain ⟨b, _, rfl⟩ := List.mem_map.mp he
    show alikeAll [.str a.1, rowV a] [.str b.1, rowV b] = true
    rw [alikeAll, alikeAll]
    show (true && (alikeAll (a.2.map .str) (b.2.map .str) && true)) = true
    rw [alike_strs]
    rfl
  · intro d hd
    obtain ⟨a, _, rfl⟩ := List.mem_map.mp hd
    rfl
  · intro d hd
    have := sm_lay (hs d hd)
    exact ⟨by omega, this.1⟩
/-! the drawn names -/
theorem num_all : ∀ i : Fin 41, (isNm (.str (numS "c" i.val)) && smS (numS "c" i.val) && (isNm (.str (numS "k" i.val)) && smS (numS "k" i.val))) = true := by decide +kernel
theorem num_nd : (numL "c" 41).Nodup ∧ (numL "k" 41).Nodup := by decide +kernel
theorem num_sub {p : Str} {n : Nat} (h : n ≤ 41) : (numL p n).Sublist (numL p 41) := by
  unfold numL
  exact (List.range_sublist.mpr h).map _
theorem num_c {n : Nat} (h : n ≤ 41) {z : Str} (hz : z ∈ numL "c" n) : isNm (.str z) = true ∧ smS z = true := by
  obtain ⟨i, hi, rfl⟩ := List.mem_map.mp hz
  have := num_all ⟨i, by have := List.mem_range.mp hi; omega⟩
  simp only [Bool.and_eq_true] at this
  exact ⟨this.1.1, this.1.2⟩
theorem num_k {n : Nat} (h : n ≤ 41) {z : Str} (hz : z ∈ numL "k" n) : isNm (.str z) = true ∧ smS z = true := by
  obtain ⟨i, hi, rfl⟩ := List.mem_map.mp hz
  have := num_all ⟨i, by have := List.mem_range.mp hi; omega⟩
  simp only [Bool.and_eq_true] at this
  exact ⟨this.2.1, this.2.2⟩
theorem num_len {p : Str} {n : Nat} : (numL p n).length = n := by
  unfold numL
  rw [List.length_map, List.length_range]
end L_k31
set_option Elab.async false
set_option linter.all false
set_option maxRecDepth 100000
set_option maxHeartbeats 1000000
namespace L_k31
open PySem PySem.Spec PyProof.Rows L2 Fw
/-! a core, by each place -/
theorem plN_at {N r : List Str} {js : List Nat} (h : ∀ j (hj : j < N.length), (N[j] ∈ r ↔ j ∈ js)) : plN N r = (List.range N.length).filter fun j => decide (j ∈ js) := by
  unfold plN
  refine List.filter_congr fun j hj => ?_
  have hj' := List.mem_range.mp hj
  rw [List.getElem?_eq_getElem hj', Bool.eq_iff_iff, decide_eq_true_eq]
  rw [decide_eq_true_eq]
  exact h j hj'
structure IsCore (cs : List Str) (rows : List Row) (w : Str) (K N : List Str) : Prop where
  ok : okW w K.length = true
  knd : K.Nodup
  nnd : N.Nodup
  len : N.length = cnt w K.length
  kin : ∀ k, k ∈ K → k ∈ rows.map (·.1)
  nin : ∀ z, z ∈ N → z ∈ cs
  at_ : ∀ i (hi : i < K.length) r, (due w K.length)[i]? = some r → ∀ j (hj : j < N.length), (N[j] ∈ row rows K[i] ↔ j ∈ r)
theorem core_of {cs : List Str} {rows : List Row} {w : Str} {K N : List Str} (h : IsCore cs rows w K N) : coreS cs rows w K N = true := by
  unfold coreS
  obtain ⟨d1, d2, d3, d4⟩ := due_ok h.ok
  simp only [Bool.and_eq_true, List.all_eq_true, decide_eq_true_eq]
  refine ⟨h.ok, ⟨⟨h.kin, h.knd⟩, h.nin, h.nnd⟩, h.len, ?_⟩
  refine List.ext_getElem (by rw [List.length_map, d1]) fun i h1 h2 => ?_
  rw [List.getElem_map]
  have hi : i < K.length := by rwa [List.length_map] at h1
  have hm : (due w K.length)[i] ∈ due w K.length := List.getElem_mem h2
  rw [plN_at (js := (due w K.length)[i]) (h.at_ i hi _ (List.getElem?_eq_getElem h2)), h.len]
  exact (d2 _ hm).2.2
theorem core_get {cs : List Str} {rows : List Row} {w : Str} {K N : List Str} (h : coreS cs rows w K N = true) : IsCore cs rows w K N := by
  unfold coreS at h
  simp only [Bool.and_eq_true, List.all_eq_true, decide_eq_true_eq] at h
  obtain ⟨h1, ⟨⟨h2, h3⟩, h4, h5⟩, h6, h7⟩ := h
  refine ⟨h1, h3, h5, h6, h2, h4, fun i hi r hr j hj => ?_⟩
  rw [← h7, List.getElem?_map, List.getElem?_eq_getElem hi, Option.map_some] at hr
  injection hr with hr
  subst hr
  unfold plN
  rw [List.mem_filter, List.mem_range, List.getElem?_eq_getElem hj]
  simp [hj]
/-! the raw rows of a planted table -/
def rowOf : D → Row
  | .tuple [.str k, .list ds] => (k, txts ds)
  | .tuple [.str k, .tuple ds] => (k, txts ds)
  | _ => ("", [])
/-- a raw row: its names are some of ns -/
def RawOk (ns : List Str) (d : D) : Prop := ∃ (k : Str) (zs : List Str) (t : D), d = .tuple [.str k, t] ∧ SeqD t (zs.map .str) ∧ zs ≠ [] ∧ zs.Nodup ∧ ∀ z, z ∈ zs → z ∈ ns
theorem raw_row {k : Str} {zs : List Str} {t : D} (h : SeqD t (zs.map .str)) : rowOf (.tuple [.str k, t]) = (k, zs) := by
  rcases h with rfl | rfl
  · show (k, txts (zs.map .str)) = _
    rw [txts_map]
  · show (k, txts (zs.map .str)) = _
    rw [txts_map]
/-- what the table is made of -/
structure Plant (w : Str) (n : Nat) (ks ns : List Str) (rs : List D) : Prop where
  raw : ∀ d, d ∈ rs → RawOk ns d
  keys : (rs.map rowOf).map (·.1) = ks
  at_ : ∀ i (hi : i < rs.length) r, i < n → (due w n)[i]? = some r → ∀ j (hj : j < ns.length), j < cnt w n → (ns[j] ∈ (rowOf rs[i]).2 ↔ j ∈ r)
def srt (q : Row) : Row := (q.1, q.2.mergeSort strLe)
def srtD (d : D) : D := rowR (srt (rowOf d))
theorem srt_sort {zs : List Str} : sortD (zs.map .str) = (zs.mergeSort strLe).map .str := sortD_strs
theorem plant_core {w : Str} {n : Nat} {ks ns cs : List Str} {rs : List D} {out : List Row} (hok : okW w n = true) (P : Plant w n ks ns rs) (hk : ks.Nodup) (hn : ns.Nodup) (hkl : n ≤ ks.length) (hnl : cnt w n ≤ ns.length) (ho : out.Perm (rs.map fun d => srt (rowOf d))) (hc : ∀ z, z ∈ ns → z ∈ cs) :
    coreS cs out w (ks.take n) (ns.take (cnt w n)) = true := by
  have e1 : (ks.take n).length = n := by rw [List.length_take]; omega
  have e2 : (ns.take (cnt w n)).length = cnt w n := by rw [List.length_take]; omega
  have hrl : rs.length = ks.length := by
    have := congrArg List.length P.keys
    simpa using this
  have hkeys : (out.map (·.1)).Perm ks := by
    have := ho.map (·.1)
    rw [List.map_map] at this
    have e3 : rs.map ((fun q : Row => q.1) ∘ fun d => srt (rowOf d)) = ks := by
      rw [← P.keys, List.map_map]
      rfl
    rwa [e3] at this
  have hod : (out.map (·.1)).Nodup := hkeys.nodup_iff.mpr hk
  refine core_of ⟨by rw [e1]; exact hok, (List.take_sublist _ _).nodup hk, (List.take_sublist _ _).nodup hn, by rw [e1, e2], fun k hk2 => hkeys.mem_iff.mpr (List.mem_of_mem_take hk2), fun z hz => hc z (List.mem_of_mem_take hz), ?_⟩
  intro i hi r hr j hj
  rw [e1] at hi hr
  rw [e2] at hj
  have hi2 : i < rs.length := by omega
  have hi3 : i < ks.length := by omega
  have hkey : (rowOf rs[i]).1 = ks[i] := by
    have : ((rs.map rowOf).map (·.1))[i]? = ks[i]? := by rw [P.keys]
    rw [List.getElem?_map, List.getElem?_map, List.getElem?_eq_getElem hi2, List.getElem?_eq_getElem hi3] at this
    simpa using this
  have hm : srt (rowOf rs[i]) ∈ out := ho.mem_iff.mpr (List.mem_map.mpr ⟨rs[i], List.getElem_mem hi2, rfl⟩)
  have hrow : row out ks[i] = (rowOf rs[i]).2.mergeSort strLe := by
    have := row_of hod hm
    have e3 : (srt (rowOf rs[i])).1 = ks[i] := hkey
    rw [e3] at this
    exact this
  rw [List.getElem_take, List.getElem_take, hrow, (List.mergeSort_perm _ _).mem_iff]
  exact P.at_ i hi2 r hi hr j (by omega) hj
theorem plant_tab {w : Str} {n : Nat} {ks ns cs : List Str} {rs : List D} {out : List Row} (P : Plant w n ks ns rs) (hnl : ns.length ≤ 40) (hkl : ks.length ≤ 20) (hnok : ∀ z, z ∈ ns → isNm (.str z) = true ∧ smS z = true) (hkok : ∀ z, z ∈ ks → isNm (.str z) = true ∧ smS z = true)
    (ho : out.Perm (rs.map fun d => srt (rowOf d))) (hu : (out.map (·.1)).Pairwise fun a b => strLt a b = true) (hcp : cs.Perm ns) (hcu : cs.Pairwise fun a b => strLt a b = true) : TabG cs out := by
  have hrl : rs.length = ks.length := by
    have := congrArg List.length P.keys
    simpa using this
  have hq : ∀ q, q ∈ out → q.1 ∈ ks ∧ ∃ zs : List Str, zs ≠ [] ∧ zs.Nodup ∧ (∀ z, z ∈ zs → z ∈ ns) ∧ q.2 = zs.mergeSort strLe := fun q hq => by
    obtain ⟨d, hd, rfl⟩ := List.mem_map.mp (ho.mem_iff.mp hq)
    obtain ⟨k, zs, t, rfl, ht, h1, h2, h3⟩ := P.raw d hd
    have e := raw_row (k := k) ht
    refine ⟨?_, zs, h1, h2, h3, by unfold srt; rw [e]⟩
    rw [← P.keys]
    exact List.mem_map.mpr ⟨rowOf (.tuple [.str k, t]), List.mem_map.mpr ⟨_, hd, rfl⟩, rfl⟩
  refine ⟨hcu, by rw [hcp.length_eq]; exact hnl, fun z hz => hnok z (hcp.mem_iff.mp hz), hu, by rw [ho.length_eq, List.length_map]; omega, fun q h => hkok _ (hq q h).1, ?_, ?_, ?_⟩
  · intro q h
    obtain ⟨_, zs, h1, h2, h3, h4⟩ := hq q h
    rw [h4]
    have hp := List.pairwise_mergeSort (le := strLe) strLe_trans strLe_total zs
    have hn2 : (zs.mergeSort strLe).Nodup := (List.mergeSort_perm zs strLe).nodup_iff.mpr h2
    exact (hp.and hn2).imp fun h => strLt_le.mpr h
  · intro q h
    obtain ⟨_, zs, h1, h2, h3, h4⟩ := hq q h
    rw [h4]
    intro h5
    have := (List.mergeSort_perm zs strLe).length_eq
    rw [h5] at this
    exact h1 (List.eq_nil_of_length_eq_zero this.symm)
  · intro q h z hz
    obtain ⟨_, zs, h1, h2, h3, h4⟩ := hq q h
    rw [h4] at hz
    exact hcp.mem_iff.mpr (h3 z ((List.mergeSort_perm zs strLe).mem_iff.mp hz))
end L_k31
set_option Elab.async false
set_option linter.all false
set_option maxRecDepth 100000
set_option maxHeartbeats 1000000
namespace L_k31
open PySem PySem.Spec PyProof.Rows L2 Fw
def pP0 : So := (sGet (gTpN 2 (gCn (gNm 3) (gCn (gNm 4) gNl))) (mCall [] f_law_rows (mCons (mVar 1) (mCons (mVar 2) mNil))))
def pP1 : So := (sSet 5 (mIf (mTst (mOp (opB dEq) (mCall [true] f_law_roll (mCons (mVar 0) (mCons (mC (.int 2)) mNil))) (mC (.int 0)))) (mCall [true] f_law_roll (mCons (mVar 0) (mCons (mOp dSub (mC (.int 41)) (mVar 4)) mNil))) (mC (.int 0))))
def pP2 : So := (sSet 6 (mCall [true] f_law_mixed (mCons (mVar 0) (mCons (mLc [12] (gNm 12) (mRng1 (mCons (mOp dAdd (mVar 4) (mVar 5)) mNil)) (mRet true) (mOp dAdd (mC (.str "c")) (mCb dStr (mCons (mVar 12) mNil)))) mNil))))
def pP3 : So := (sSet 7 (mCall [true] f_law_mixed (mCons (mVar 0) (mCons (mLc [12] (gNm 12) (mRng1 (mCons (mOp dAdd (mVar 2) (mCall [true] f_law_roll (mCons (mVar 0) (mCons (mOp dSub (mC (.int 21)) (mVar 2)) mNil)))) mNil)) (mRet true) (mOp dAdd (mC (.str "k")) (mCb dStr (mCons (mVar 12) mNil)))) mNil))))
def pP4 : So := (sSet 8 (mLc [13, 14] (gTpN 2 (gCn (gNm 13) (gCn (gNm 14) gNl))) (mEnum (mVar 3)) (mRet true) (mTup (mCons (mOp dIx (mVar 7) (mVar 13)) (mCons (mOp dAdd (mLc [12] (gNm 12) (mIt (mVar 14)) (mRet true) (mOp dIx (mVar 6) (mVar 12))) (mCb dList (mCons (mCall [true] f_law_part (mCons (mVar 0) (mCons (mSl dSl (mVar 6) (mPart (mVar 4)) mNoPart) mNil))) mNil))) mNil)))))
def pPb : So := (sSeq (sSet 10 (mCall [true] f_law_part (mCons (mVar 0) (mCons (mVar 6) mNil)))) (sSeq (sDrop (mMut "list" 8 fAppend (mCons (mTup (mCons (mVar 9) (mCons (mIf (mTst (mOp (opB dNe) (mVar 10) (mTup mNil))) (mVar 10) (mSl dSl (mVar 6) mNoPart (mPart (mC (.int 1))))) mNil))) mNil))) sSkip))
def pP5 : So := (sFor (gNm 9) (mIt (mSl dSl (mVar 7) (mPart (mVar 2)) mNoPart)) pPb)
def pP6 : So := (sSet 11 (mTup (mCons (mCb dTup (mCons (mCb dSorted (mCons (mVar 6) mNil)) mNil)) (mCons (mCb dTup (mCons (mCb dSorted (mCons (mLc [9, 14] (gTpN 2 (gCn (gNm 9) (gCn (gNm 14) gNl))) (mIt (mVar 8)) (mRet true) (mTup (mCons (mVar 9) (mCons (mCb dTup (mCons (mCb dSorted (mCons (mVar 14) mNil)) mNil)) mNil)))) mNil)) mNil)) mNil))))
def pP7 : So := (sRet (mTup (mCons (mVar 11) (mCons (mTup (mCons (mVar 1) (mCons (mCb dTup (mCons (mSl dSl (mVar 7) mNoPart (mPart (mVar 2))) mNil)) (mCons (mCb dTup (mCons (mSl dSl (mVar 6) mNoPart (mPart (mVar 4))) mNil)) mNil)))) mNil))))
theorem pP_eq : m_law_planted = sSeq pP0 (sSeq pP1 (sSeq pP2 (sSeq pP3 (sSeq pP4 (sSeq pP5 (sSeq pP6 (sSeq pP7 sSkip))))))) := rfl
def rP (s1 s2 s3 s4 s5 s6 s7 s8 s9 s10 s11 : Sl) : En := [s1, s2, s3, s4, s5, s6, s7, s8, s9, s10, s11, .un, .un, .un]
theorem part_drw {t : D} {ds : List D} (h : SeqD t ds) (hl : ds.length ≤ 1000) : Drw f_law_part [t] fun x => ∃ xs : List D, x = .v (.tuple xs) ∧ xs.Sublist ds := fun c hc => (part_ok c hc t ds h hl).mono fun x o ⟨xs, c', h1, h2, h3, h4⟩ => ⟨c', h3, h4, by rw [h1]; rfl, xs, h1, h2⟩
theorem mixed_drw {t : D} {ds : List D} (h : SeqD t ds) (hl : ds.length ≤ 1000) : Drw f_law_mixed [t] fun x => ∃ xs : List D, x = .nw (.list xs) ∧ xs.Perm ds := fun c hc => (mixed_ok c hc t ds h hl).mono fun x o ⟨xs, c', h1, h2, h3, h4⟩ => ⟨c', h3, h4, by rw [h1]; rfl, xs, h1, h2⟩
def numC (p : Str) (mi : Mo (List D)) : Mo Vx := mLc [12] (gNm 12) mi (mRet true) (mOp dAdd (mC (.str p)) (mCb dStr (mCons (mVar 12) mNil)))
section
variable {s1 s2 s3 s4 s5 s6 s7 s8 s9 s10 s11 : Sl}
theorem num_ec {p : Str} (hp : p.length ≤ 10) {mi : Mo (List D)} {P : Vx → Prop} (h : ECI mi (rP s1 s2 s3 s4 s5 s6 s7 s8 s9 s10 s11) fun ds => ∃ n, n ≤ 41 ∧ ds = rngD 0 n ∧ P (.nw (.list ((numL p n).map .str)))) : EC (numC p mi) (rP s1 s2 s3 s4 s5 s6 s7 s8 s9 s10 s11) P := by
  refine ec_lcm ?_
  intro c hc
  refine (h c hc).mono ?_
  rintro ds e1 ⟨c1, hc1, rfl, n, hn, rfl, q⟩
  refine ⟨c1, hc1, rfl, by rw [rng_len]; omega, fun _ => rfl, gN p, rP s1 s2 s3 s4 s5 s6 s7 s8 s9 s10 s11, fun _ => rfl, fun _ _ => rfl, fun d hd => ?_, by rw [gN_map]; exact q⟩
  obtain ⟨i, hi⟩ := List.getElem?_of_mem hd
  obtain ⟨rfl, hlt⟩ := rng0_get hi
  obtain ⟨h1, h2⟩ := num_ok ⟨i, by omega⟩
  clear hi hd
  have h1' : ((i : Int)).natAbs.log2 < 1920 := h1
  have h2' : (Str.ofString (toString (i : Int))).length ≤ 10 := h2
  clear h1 h2
  generalize (i : Int) = y at h1' h2' ⊢
  refine ⟨[s1, s2, s3, s4, s5, s6, s7, s8, s9, s10, s11, .fz (.int y), .un, .un], fun _ => rfl, fun _ => rfl, ?_⟩
  refine ec_v (d := gN p (.int y)) (fun c => ev_opV ev_c.toD (ev_cbV (evs_cons (ev_var (d := .int y) rfl).toD evs_nil) (by rw [dStr_i, if_pos h1'])).toD (by rw [dAdd_s, if_pos (by rw [sizeLine_eq]; omega)]; rfl)) vst_v
end
/-- the places after the first steps -/
def q3 (w : Str) (n : Nat) : Sl := .fz (.list ((due w n).map rdD))
def q4 (w : Str) (n : Nat) : Sl := .fz (iD (cnt w n))
section
variable {w : Str} {n : Nat} {c : D} {Q : Ed} {rest : So}
theorem pP0_spec (hok : okW w n = true) (h : wS rest (.bo c :: rP (.fz (.str w)) (.fz (.int n)) (q3 w n) (q4 w n) .un .un .un .un .un .un .un) Q) : wS (sSeq pP0 rest) (.bo c :: rP (.fz (.str w)) (.fz (.int n)) .un .un .un .un .un .un .un .un .un) Q :=
  sq_get (ev_calls (evs_cons (ev_var rfl).toD (evs_cons (ev_var rfl).toD evs_nil)) (law_rows_spec hok)).toD rfl h
theorem pP1_spec (hok : okW w n = true) (hc : CupOk c) (h : ∀ c (z : Int), CupOk c → 0 ≤ z → z + cnt w n ≤ 40 → wS rest (.bo c :: rP (.fz (.str w)) (.fz (.int n)) (q3 w n) (q4 w n) (.fz (.int z)) .un .un .un .un .un .un) Q) : wS (sSeq pP1 rest) (.bo c :: rP (.fz (.str w)) (.fz (.int n)) (q3 w n) (q4 w n) .un .un .un .un .un .un .un) Q := by
  obtain ⟨d1, d2, d3, d4⟩ := due_ok hok
  refine sq_setC hc (EC.mono (P := fun x => ∃ z : Int, x = .v (.int z) ∧ 0 ≤ z ∧ z + cnt w n ≤ 40) ?_ ?_)
  · refine ec_if (ecb_tst (ec_op (EC.mono (ec_call (ecl_cons (ec_c (ecl_nil ⟨[.int 2], .cons vst_v .nil, roll_drw roll_ok (by omega) (by omega)⟩)))) ?_)))
    rintro x ⟨z, rfl, h0, h1⟩
    refine ⟨_, vst_v, ec_c ⟨_, vst_v, _, opB_some dEq_i, _, vst_v, ?_⟩⟩
    split
    · refine (ec_call (ecl_cons (ec_v (d := .int (41 - (cnt w n : Int))) (fun c => ev_opV ev_c.toD (ev_var (d := iD (cnt w n)) rfl).toD rfl) (ecl_nil ⟨_, .cons vst_v .nil, roll_drw roll_ok (by omega) (by omega)⟩)))).mono ?_
      rintro x ⟨z, rfl, h0, h1⟩
      exact ⟨z, rfl, h0, by omega⟩
    · exact ec_c ⟨0, rfl, by omega, by omega⟩
  · rintro x ⟨z, rfl, h0, h1⟩
    exact ⟨_, _, .inl ⟨_, rfl, rfl⟩, fun _ => rfl, fun c hc => h c z hc h0 h1⟩
theorem pP2_spec {z : Int} (h0 : 0 ≤ z) (h1 : z + cnt w n ≤ 40) (hc : CupOk c) (h : ∀ c (ns : List Str), CupOk c → ns.Perm (numL "c" (z + cnt w n).toNat) → wS rest (.bo c :: rP (.fz (.str w)) (.fz (.int n)) (q3 w n) (q4 w n) (.fz (.int z)) (.ow (.list (ns.map .str))) .un .un .un .un .un) Q) : wS (sSeq pP2 rest) (.bo c :: rP (.fz (.str w)) (.fz (.int n)) (q3 w n) (q4 w n) (.fz (.int z)) .un .un .un .un .un .un) Q := by
  refine sq_setC hc (EC.mono (P := fun x => ∃ xs : List D, x = .nw (.list xs) ∧ xs.Perm ((numL "c" (z + cnt w n).toNat).map .str)) ?_ ?_)
  · refine ec_call (ecl_cons (num_ec (by decide) (eci_rng (ec_v (d := .int ((cnt w n : Int) + z)) (fun c => ev_opV (ev_var (d := iD (cnt w n)) rfl).toD (ev_var (d := .int z) rfl).toD rfl) ⟨_, (z + cnt w n).toNat, vst_v, by omega, by omega, _, by omega, rfl, ecl_nil ⟨_, .cons vst_nw .nil, mixed_drw (.inl rfl) (by rw [List.length_map, num_len]; omega)⟩⟩))))
  · rintro x ⟨xs, rfl, hp⟩
    obtain ⟨ns, hp2, rfl⟩ := unmap hp
    exact ⟨_, _, .inr ⟨_, rfl, rfl⟩, fun _ => rfl, fun c hc => h c ns hc hp2⟩
theorem pP3_spec (hok : okW w n = true) {z : Int} {s6 : Sl} (hc : CupOk c) (h : ∀ c (ks : List Str) (m : Nat), CupOk c → n ≤ m → m ≤ 20 → ks.Perm (numL "k" m) → wS rest (.bo c :: rP (.fz (.str w)) (.fz (.int n)) (q3 w n) (q4 w n) (.fz (.int z)) s6 (.ow (.list (ks.map .str))) .un .un .un .un) Q) : wS (sSeq pP3 rest) (.bo c :: rP (.fz (.str w)) (.fz (.int n)) (q3 w n) (q4 w n) (.fz (.int z)) s6 .un .un .un .un .un) Q := by
  have hn := (okW_get hok).2.2.2
  refine sq_setC hc (EC.mono (P := fun x => ∃ (m : Nat) (xs : List D), x = .nw (.list xs) ∧ n ≤ m ∧ m ≤ 20 ∧ xs.Perm ((numL "k" m).map .str)) ?_ ?_)
  · refine ec_call (ecl_cons (num_ec (by decide) (eci_rng (ec_op (ec_var rfl ⟨_, vst_v, EC.mono (ec_call (ecl_cons (ec_v (d := .int (21 - (n : Int))) (fun c => ev_opV ev_c.toD (ev_var (d := .int n) rfl).toD rfl) (ecl_nil ⟨_, .cons vst_v .nil, roll_drw roll_ok (by omega) (by omega)⟩)))) ?_⟩)))))
    rintro x ⟨y, rfl, h0, h1⟩
    refine ⟨_, vst_v, _, dAdd_i, _, (n + y).toNat, vst_v, by omega, by omega, _, by omega, rfl, ecl_nil ⟨_, .cons vst_nw .nil, fun c hc => (mixed_drw (.inl rfl) (by rw [List.length_map, num_len]; omega) c hc).mono ?_⟩⟩
    rintro x o ⟨c', hc', ho, hx, xs, rfl, hp⟩
    exact ⟨c', hc', ho, hx, _, xs, rfl, by omega, by omega, hp⟩
  · rintro x ⟨m, xs, rfl, h1, h2, hp⟩
    obtain ⟨ks, hp2, rfl⟩ := unmap hp
    exact ⟨_, _, .inr ⟨_, rfl, rfl⟩, fun _ => rfl, fun c hc => h c ks m hc h1 h2 hp2⟩
end
end L_k31
set_option Elab.async false
set_option linter.all false
set_option maxRecDepth 100000
set_option maxHeartbeats 1000000
namespace L_k31
open PySem PySem.Spec PyProof.Rows L2 Fw
theorem due_ne_chk : ∀ w ∈ W5, ∀ n : Fin 21, okW w n = true → ((due w n).all fun r => !r.isEmpty) = true := by decide +kernel
theorem due_ne {w : Str} {n : Nat} (h : okW w n = true) {r : List Nat} (hr : r ∈ due w n) : r ≠ [] := by
  have := List.all_eq_true.mp (due_ne_chk w (okW_get h).1 ⟨n, by have := (okW_get h).2.2.2; omega⟩ h) r hr
  rintro rfl
  cases this
theorem due_nd {w : Str} {n : Nat} (h : okW w n = true) {r : List Nat} (hr : r ∈ due w n) : r.Nodup := by
  rw [← ((due_ok h).2.1 r hr).2.2]
  exact List.filter_sublist.nodup List.nodup_range
/-- the names at places -/
def nA (ns : List Str) (j : Nat) : Str := ns.getD j Str.empty
theorem nA_get {ns : List Str} {j : Nat} (h : j < ns.length) : nA ns j = ns[j] := by
  unfold nA
  rw [List.getD_eq_getElem?_getD, List.getElem?_eq_getElem h]
  rfl
theorem at_names {ns ps : List Str} {r : List Nat} {m : Nat} (hn : ns.Nodup) (hr : ∀ i, i ∈ r → i < m) (hm : m ≤ ns.length) (hp : ps.Sublist (ns.drop m)) {j : Nat} (hj : j < ns.length) (hj2 : j < m) : ns[j] ∈ r.map (nA ns) ++ ps ↔ j ∈ r := by
  rw [List.mem_append]
  constructor
  · rintro (h | h)
    · obtain ⟨i, hi, e⟩ := List.mem_map.mp h
      have hi2 := hr i hi
      rw [nA_get (by omega)] at e
      have := nd_inj hn (by omega) hj e
      rwa [← this]
    · obtain ⟨i, hi, e⟩ := List.mem_iff_getElem.mp (hp.mem h)
      rw [List.getElem_drop] at e
      rw [List.length_drop] at hi
      have := nd_inj hn (i := m + i) (j := j) (by omega) hj e
      omega
  · intro h
    exact .inl (List.mem_map.mpr ⟨j, h, nA_get hj⟩)
theorem raw_nd {ns ps : List Str} {r : List Nat} {m : Nat} (hn : ns.Nodup) (hrn : r.Nodup) (hr : ∀ i, i ∈ r → i < m) (hm : m ≤ ns.length) (hp : ps.Sublist (ns.drop m)) : (r.map (nA ns) ++ ps).Nodup := by
  rw [List.nodup_append]
  refine ⟨?_, hp.nodup ((List.drop_sublist _ _).nodup hn), ?_⟩
  · rw [List.nodup_iff_pairwise_ne, List.pairwise_map]
    refine (List.pairwise_iff_getElem.mpr fun i j hi hj hij e => ?_)
    have h1 := hr r[i] (List.getElem_mem hi)
    have h2 := hr r[j] (List.getElem_mem hj)
    rw [nA_get (by omega), nA_get (by omega)] at e
    have := nd_inj hn (by omega) (by omega) e
    exact List.pairwise_iff_getElem.mp hrn i j hi hj hij this
  · intro a ha b hb e
    obtain ⟨i, hi, rfl⟩ := List.mem_map.mp ha
    obtain ⟨k, hk, e2⟩ := List.mem_iff_getElem.mp (hp.mem hb)
    have h1 := hr i hi
    rw [List.getElem_drop] at e2
    rw [List.length_drop] at hk
    rw [nA_get (by omega), ← e2] at e
    have := nd_inj hn (i := i) (j := m + k) (by omega) (by omega) e
    omega
theorem enum_at {l : List (List Nat)} {i : Nat} {d : D} (h : (enumD 0 (l.map rdD))[i]? = some d) : ∃ r, l[i]? = some r ∧ d = .tuple [.int (i : Nat), rdD r] := by
  rw [enum_get, List.getElem?_mapIdx, List.getElem?_map] at h
  cases e : l[i]? with
  | none => rw [e] at h; cases h
  | some r =>
    rw [e] at h
    injection h with h
    refine ⟨r, rfl, ?_⟩
    rw [← h, Nat.zero_add]
def gA (ns : List Str) : D → D
  | .int i => .str (nA ns i.toNat)
  | d => d
theorem gA_map {ns : List Str} {r : List Nat} : (r.map iD).map (gA ns) = (r.map (nA ns)).map .str := by
  rw [List.map_map, List.map_map]
  rfl
section
variable {w : Str} {n : Nat} {ks ns : List Str} {s5 : Sl}
def R4 (w : Str) (n : Nat) (ks ns : List Str) (i : Nat) (y : D) : Prop := ∃ (k : Str) (r : List Nat) (ps : List Str), ks[i]? = some k ∧ (due w n)[i]? = some r ∧ ps.Sublist (ns.drop (cnt w n)) ∧ y = .tuple [.str k, .list ((r.map (nA ns) ++ ps).map .str)]
def l4 (ks ns : List Str) (w : Str) (n : Nat) (s5 : Sl) (s12 s13 s14 : Sl) : En := [.fz (.str w), .fz (.int n), q3 w n, q4 w n, s5, .ow (.list (ns.map .str)), .ow (.list (ks.map .str)), .un, .un, .un, .un, s12, s13, s14]
theorem pP4_ec (hok : okW w n = true) (hkl : n ≤ ks.length) (hnl : cnt w n ≤ ns.length) (hn40 : ns.length ≤ 40) {P : Vx → Prop} (h : ∀ ys : List D, ys.length = n → (∀ i y, ys[i]? = some y → R4 w n ks ns i y) → P (.nw (.list ys))) :
    EC (mLc [13, 14] (gTpN 2 (gCn (gNm 13) (gCn (gNm 14) gNl))) (mEnum (mVar 3)) (mRet true) (mTup (mCons (mOp dIx (mVar 7) (mVar 13)) (mCons (mOp dAdd (mLc [12] (gNm 12) (mIt (mVar 14)) (mRet true) (mOp dIx (mVar 6) (mVar 12))) (mCb dList (mCons (mCall [true] f_law_part (mCons (mVar 0) (mCons (mSl dSl (mVar 6) (mPart (mVar 4)) mNoPart) mNil))) mNil))) mNil)))) (l4 ks ns w n s5 .un .un .un) P := by
  obtain ⟨d1, d2, d3, d4⟩ := due_ok hok
  have hn20 := (okW_get hok).2.2.2
  refine ec_lcd (eci_enum (ec_var (d := .list ((due w n).map rdD)) rfl ⟨_, _, vst_v, rfl, ?_⟩))
  have el : (enumD 0 ((due w n).map rdD)).length = n := by rw [enum_len, List.length_map, d1]
  refine ⟨by omega, fun _ => rfl, R4 w n ks ns, l4 ks ns w n s5 .un .un .un, fun _ => rfl, fun _ _ => rfl, fun i d hd => ?_, fun ys hl hy => h ys (by rw [hl, el]) hy⟩
  obtain ⟨r, hr, rfl⟩ := enum_at hd
  have hi : i < n := by
    have := (List.getElem?_eq_some_iff.mp hr).1
    omega
  obtain ⟨g1, g2, g3⟩ := d2 r (List.mem_of_getElem? hr)
  refine ⟨l4 ks ns w n s5 .un (.fz (.int (i : Nat))) (.fz (rdD r)), fun _ => rfl, fun _ => rfl, ?_⟩
  have hk : ks[i]? = some (ks[i]'(by omega)) := List.getElem?_eq_getElem (by omega)
  generalize ks[i]'(by omega) = k at hk
  refine ec_tup (ecl_cons (ec_v (d := .str k) (ev_opr (rds_ow (d := .list (ks.map .str)) rfl) (rds_fz (d := .int (i : Nat)) rfl) ?_) (ecl_cons (ec_op (ec_n (d := .list ((r.map (nA ns)).map .str)) (fun c => ?_) ⟨_, vst_nw, ec_cb (ecl_cons (EC.mono (ec_call (ecl_cons (ec_n (d := .list ((ns.drop (cnt w n)).map .str)) (fun c => ?_) (ecl_nil ⟨_, .cons vst_nw .nil, part_drw (.inl rfl) (by rw [List.length_map, List.length_drop]; omega)⟩)))) ?_))⟩)))))
  · rw [dIx_l, strs_atI (by omega) (by rw [Int.toNat_natCast]; exact hk)]
    rfl
  · rw [← gA_map]
    refine lc_mp ?_
    rw [w_it]
    refine (ev_var (d := rdD r) rfl).mono ?_
    rintro x e1 ⟨rfl, rfl⟩
    rw [w_val_v]
    show wIt (some (r.map iD)) _ _
    rw [wIt_some]
    refine ⟨rfl, by rw [List.length_map]; omega, gA ns, fun d hd => ?_, rfl, rfl⟩
    obtain ⟨j, hj, rfl⟩ := List.mem_map.mp hd
    have hj2 := g2 j hj
    refine ⟨.bo c :: l4 ks ns w n s5 (.fz (iD j)) (.fz (.int (i : Nat))) (.fz (rdD r)), rfl, ?_⟩
    rw [w_ret]
    refine ⟨rfl, ?_⟩
    refine (ev_opr (rds_ow (d := .list (ns.map .str)) rfl) (rds_fz (d := iD j) rfl) (z := .str (nA ns j)) ?_ c).mono ?_
    · unfold iD
      rw [dIx_l, strs_atI (z := nA ns j) (by omega) (by rw [Int.toNat_natCast, nA_get (by omega)]; exact List.getElem?_eq_getElem (by omega))]
      rfl
    · rintro x e4 ⟨rfl, rfl⟩
      rw [w_val_v]
      exact ⟨rfl, rfl⟩
  · have e : Fw.cutD (ns.map PyData.str) (some (cnt w n : Int)) none = (ns.drop (cnt w n)).map .str := by
      rw [cut_from (by omega) (by rw [List.length_map]; omega), Int.toNat_natCast, List.map_drop]
    rw [← e]
    exact ev_slL ((rds_ow (d := .list (ns.map .str)) rfl).rd c) (ep_some (ev_var (d := iD (cnt w n)) rfl).toD) ep_none
  · rintro x ⟨xs, rfl, hsub⟩
    obtain ⟨ps, hps, rfl⟩ := List.sublist_map_iff.mp hsub
    have hpl := hps.length_le
    rw [List.length_drop] at hpl
    refine ecl_nil ⟨_, .cons vst_v .nil, _, dList_t, _, vst_nw, .nw (.list ((r.map (nA ns)).map .str ++ ps.map .str)), ?_, ecl_nil ⟨_, .cons vst_v (.cons vst_nw .nil), by simp, _, vst_v, k, r, ps, hk, hr, hps, by rw [List.map_append]⟩⟩
    rw [dAdd_l, if_pos (by rw [sizeLine_eq]; simp; omega)]
end
/-- what the first rows are -/
theorem R4_plant {w : Str} {n : Nat} {ks ns : List Str} {ys : List D} (hok : okW w n = true) (hkl : n ≤ ks.length) (hnl : cnt w n ≤ ns.length) (hn : ns.Nodup) (hl : ys.length = n) (hy : ∀ i y, ys[i]? = some y → R4 w n ks ns i y) :
    (∀ d, d ∈ ys → RawOk ns d) ∧ (ys.map rowOf).map (·.1) = ks.take n ∧ ∀ i (hi : i < ys.length) r, (due w n)[i]? = some r → ∀ j (hj : j < ns.length), j < cnt w n → (ns[j] ∈ (rowOf ys[i]).2 ↔ j ∈ r) := by
  obtain ⟨d1, d2, d3, d4⟩ := due_ok hok
  refine ⟨fun d hd => ?_, ?_, fun i hi r hr j hj hj2 => ?_⟩
  · obtain ⟨i, hi⟩ := List.getElem?_of_mem hd
    obtain ⟨k, r, ps, h1, h2, h3, rfl⟩ := hy i d hi
    have hr := List.mem_of_getElem? h2
    obtain ⟨g1, g2, g3⟩ := d2 r hr
    refine ⟨k, _, _, rfl, .inl rfl, ?_, raw_nd hn (due_nd hok hr) g2 hnl h3, fun z hz => ?_⟩
    · have := due_ne hok hr
      simp [this]
    · rcases List.mem_append.mp hz with hz | hz
      · obtain ⟨j, hj, rfl⟩ := List.mem_map.mp hz
        have := g2 j hj
        rw [nA_get (by omega)]
        exact List.getElem_mem _
      · exact List.mem_of_mem_drop (h3.mem hz)
  · refine List.ext_getElem (by simp; omega) fun i h1 h2 => ?_
    have hi : i < ys.length := by simpa using h1
    obtain ⟨k, r, ps, g1, g2, g3, g4⟩ := hy i ys[i] (List.getElem?_eq_getElem hi)
    rw [List.getElem_map, List.getElem_map, List.getElem_take, g4, raw_row (.inl rfl)]
    have := (List.getElem?_eq_some_iff.mp g1).2
    exact this.symm
  · obtain ⟨k, r2, ps, g1, g2, g3, g4⟩ := hy i ys[i] (List.getElem?_eq_getElem hi)
    rw [hr] at g2
    injection g2 with g2
    subst g2
    rw [g4, raw_row (.inl rfl)]
    exact at_names hn (d2 r (List.mem_of_getElem? hr)).2.1 hnl g3 hj hj2
end L_k31
set_option Elab.async false
set_option linter.all false
set_option maxRecDepth 100000
set_option maxHeartbeats 1000000
namespace L_k31
open PySem PySem.Spec PyProof.Rows L2 Fw
/-- own or frozen -/
def OwFz (s : Sl) (d : D) : Prop := s = .ow d ∨ s = .fz d
section
variable {w : Str} {n : Nat} {ks ns : List Str} {c z : D} {s5 s6 s7 s8 s9 s10 s11 : Sl} {Q : Ed} {rest : So}
def e5 (c : D) (w : Str) (n : Nat) (s5 s6 s7 s8 s9 s10 s11 : Sl) : En := .bo c :: rP (.fz (.str w)) (.fz (.int n)) (q3 w n) (q4 w n) s5 s6 s7 s8 s9 s10 s11
theorem part6 (hc : CupOk c) (h6 : OwFz s6 (.list (ns.map .str))) (hl : ns.length ≤ 1000) : wM (mCall [true] f_law_part (mCons (mVar 0) (mCons (mVar 6) mNil))) (e5 c w n s5 s6 s7 s8 s9 s10 s11) fun x e1 => ∃ (c' : D) (zs : List Str), CupOk c' ∧ x = .v (.tuple (zs.map .str)) ∧ zs.Sublist ns ∧ e1 = e5 c' w n s5 (.fz (.list (ns.map .str))) s7 s8 s9 s10 s11 := by
  rcases h6 with rfl | rfl
  all_goals
    unfold e5 rP
    simp
    refine (part_ok c hc _ _ (.inl rfl) (by rw [List.length_map]; exact hl)).mono ?_
    rintro x o ⟨xs, c2, rfl, hsub, hc2, rfl⟩
    obtain ⟨zs, hzs, rfl⟩ := List.sublist_map_iff.mp hsub
    simp
    exact ⟨c2, hc2, zs, rfl, hzs, rfl⟩
theorem pPb_spec {k : Str} {rs : List D} (hc : CupOk c) (h0 : ns ≠ []) (h6 : OwFz s6 (.list (ns.map .str))) (h10 : FzUn s10) (hl : ns.length ≤ 40) (hsm : ∀ z, z ∈ ns → smS z = true) (hrl : rs.length ≤ 1000)
    (h : ∀ (c' t : D) (zs : List Str) (s10 : Sl), CupOk c' → SeqD t (zs.map .str) → zs ≠ [] → zs.Sublist ns → FzUn s10 → Q.nx (e5 c' w n s5 (.fz (.list (ns.map .str))) s7 (.ow (.list (rs ++ [.tuple [.str k, t]]))) (.fz (.str k)) s10 .un)) :
    wS pPb (e5 c w n s5 s6 s7 (.ow (.list rs)) (.fz (.str k)) s10 .un) Q := by
  unfold pPb
  rw [w_seq, w_set]
  refine (part6 hc h6 (by omega)).mono ?_
  rintro x e1 ⟨c2, zs, hc2, rfl, hzs, rfl⟩
  rw [wSet_v, setSl_p]
  show wPut (putS (some s10) 10 _ _) _
  rw [fzUn_set h10]
  show wS _ (e5 c2 w n s5 (.fz (.list (ns.map .str))) s7 (.ow (.list rs)) (.fz (.str k)) (.fz (.tuple (zs.map .str))) .un) _
  have hzl := hzs.length_le
  have hif : ∃ (t : D) (ys : List Str), SeqD t (ys.map .str) ∧ ys ≠ [] ∧ ys.Sublist ns ∧ EvD (mIf (mTst (mOp (opB dNe) (mVar 10) (mTup mNil))) (mVar 10) (mSl dSl (mVar 6) mNoPart (mPart (mC (.int 1))))) (e5 c2 w n s5 (.fz (.list (ns.map .str))) s7 (.ow (.list rs)) (.fz (.str k)) (.fz (.tuple (zs.map .str))) .un) t := by
    have ht : EvB (mTst (mOp (opB dNe) (mVar 10) (mTup mNil))) (e5 c2 w n s5 (.fz (.list (ns.map .str))) s7 (.ow (.list rs)) (.fz (.str k)) (.fz (.tuple (zs.map .str))) .un) (!(zs.map PyData.str).isEmpty) := eb_ne0 (ev_var rfl).toD (strs_sm1 (by omega) fun z hz => hsm z (hzs.mem hz))
    cases hz : zs with
    | nil =>
      subst hz
      obtain ⟨y, ys, rfl⟩ := List.exists_cons_of_ne_nil h0
      refine ⟨.list (Fw.cutD ((y :: ys).map PyData.str) none (some 1)), [y], .inl ?_, by simp, List.singleton_sublist.mpr List.mem_cons_self, ev_ifF ht (ev_slL (ev_var (d := .list ((y :: ys).map .str)) rfl).toD.rd ep_none (ep_some ev_c.toD)).toD⟩
      rw [cut_to (by omega) (by simp; omega)]
      rfl
    | cons y ys =>
      subst hz
      exact ⟨_, y :: ys, .inr rfl, by simp, hzs, ev_ifT ht (ev_var rfl).toD⟩
  obtain ⟨t, ys, h1, h2, h3, h4⟩ := hif
  refine sq_app (xs := rs) (d := .tuple [.str k, t]) rfl (ev_tup (evs_cons (ev_var rfl).toD (evs_cons h4 evs_nil)) (by simp)).toD hrl ?_
  rw [w_skip]
  exact h c2 t ys _ hc2 h1 h2 h3 (.inr ⟨_, rfl⟩)
theorem pP5_spec {ys : List D} (hc : CupOk c) (hnd : ns.Nodup) (h0 : ns ≠ []) (hl : ns.length ≤ 40) (hsm : ∀ z, z ∈ ns → smS z = true) (hkl : ks.length ≤ 20) (hnk : n ≤ ks.length) (hyl : ys.length = n)
    (h : ∀ (c' : D) (s6 s9 s10 : Sl) (more : List D), CupOk c' → OwFz s6 (.list (ns.map .str)) → FzUn s9 → FzUn s10 → (more.map rowOf).map (·.1) = ks.drop n → (∀ d, d ∈ more → RawOk ns d) → wS rest (e5 c' w n s5 s6 (.ow (.list (ks.map .str))) (.ow (.list (ys ++ more))) s9 s10 .un) Q) :
    wS (sSeq pP5 rest) (e5 c w n s5 (.ow (.list (ns.map .str))) (.ow (.list (ks.map .str))) (.ow (.list ys)) .un .un .un) Q := by
  rw [w_seq]
  unfold pP5
  rw [w_for, w_it]
  refine (ev_slL ((rds_ow (d := .list (ks.map .str)) rfl).rd c) (ep_some (ev_var (d := .int n) rfl).toD) ep_none).mono ?_
  rintro x e1 ⟨rfl, rfl⟩
  rw [w_val_nw, itD_list, wIt_some]
  have e : Fw.cutD (ks.map PyData.str) (some (n : Int)) none = (ks.drop n).map .str := by
    rw [cut_from (by omega) (by rw [List.length_map]; omega), Int.toNat_natCast, List.map_drop]
  rw [e]
  refine for_inv (fun i e => ∃ (c' : D) (s6 s9 s10 : Sl) (more : List D), e = e5 c' w n s5 s6 (.ow (.list (ks.map .str))) (.ow (.list (ys ++ more))) s9 s10 .un ∧ CupOk c' ∧ OwFz s6 (.list (ns.map .str)) ∧ FzUn s9 ∧ FzUn s10 ∧ (more.map rowOf).map (·.1) = (ks.drop n).take i ∧ ∀ d, d ∈ more → RawOk ns d) ⟨c, _, _, _, [], by rw [List.append_nil]; rfl, hc, .inl rfl, .inl rfl, .inl rfl, by simp, by simp⟩ ?_ ?_
  · rintro i d e hd ⟨c', s6, s9, s10, more, rfl, hc', h6, h9, h10, hk, hm⟩
    rw [List.getElem?_map] at hd
    obtain ⟨k, hk2, rfl⟩ := Option.map_eq_some_iff.mp hd
    have htk : (ks.drop n).take (i + 1) = (ks.drop n).take i ++ [k] := by
      rw [List.take_succ, hk2]
      rfl
    have hml : more.length ≤ 20 := by
      have := congrArg List.length hk
      simp at this
      omega
    refine ⟨e5 c' w n s5 s6 (.ow (.list (ks.map .str))) (.ow (.list (ys ++ more))) (.fz (.str k)) s10 .un, ?_, ?_⟩
    · rw [gNm_s, setSl_p]
      exact fzUn_set h9
    · refine pPb_spec hc' h0 h6 h10 hl hsm (by simp; omega) fun c2 t zs s10' hc2 ht hz0 hzs h10' => ?_
      refine ⟨c2, _, _, _, more ++ [.tuple [.str k, t]], by rw [List.append_assoc], hc2, .inr rfl, .inr ⟨_, rfl⟩, h10', ?_, ?_⟩
      · rw [htk, List.map_append, List.map_append, hk]
        congr 1
        show [(rowOf (.tuple [.str k, t])).1] = _
        rw [raw_row ht]
      · intro d hd
        rcases List.mem_append.mp hd with hd | hd
        · exact hm d hd
        · rw [List.mem_singleton.mp hd]
          exact ⟨k, zs, t, rfl, ht, hz0, hzs.nodup hnd, fun z hz => hzs.mem hz⟩
  · rintro e ⟨c', s6, s9, s10, more, rfl, hc', h6, h9, h10, hk, hm⟩
    rw [List.length_map, List.take_length] at hk
    exact h c' s6 s9 s10 more hc' h6 h9 h10 hk hm
end
/-! the table is put in order -/
theorem it_ow {e e1 : En} {i : Nat} {d : D} {ds : List D} {Q : List D → En → Prop} (h : e[i]? = some (.ow d)) (hi : itD d = some ds) (he : e.set i (.fz d) = e1) (q : Q ds e1) : wM (mIt (mVar i)) e Q := by
  rw [w_it, w_var, h, wVar_ow, w_val_pl, h, wVl_ow, hi, wIt_some, he]
  exact q
theorem rds_of {r : En} {i : Nat} {d : D} {s : Sl} (h : OwFz s d) (hi : r[i]? = some s) : Rds (mVar (i + 1)) r d := by
  rcases h with rfl | rfl
  · exact rds_ow hi
  · exact rds_fz hi
section
variable {w : Str} {n : Nat} {ks ns : List Str} {c z : D} {s5 s6 s7 s8 s9 s10 s11 : Sl} {Q : Ed} {rest : So}
theorem pP6_spec {rs : List D} (P : Plant w n ks ns rs) (h6 : OwFz s6 (.list (ns.map .str))) (h9 : FzUn s9) (hl : ns.length ≤ 40) (hkl : ks.length ≤ 20) (hsm : ∀ z, z ∈ ns → isNm (.str z) = true ∧ smS z = true) (hksm : ∀ z, z ∈ ks → isNm (.str z) = true ∧ smS z = true) (hn : ns.Nodup) (hk : ks.Nodup)
    (h : ∀ (cs : List Str) (out : List Row) (s8 : Sl), cs.Perm ns → (cs.Pairwise fun a b => strLt a b = true) → out.Perm (rs.map fun d => srt (rowOf d)) → ((out.map (·.1)).Pairwise fun a b => strLt a b = true) → wS rest (e5 c w n s5 s6 s7 s8 s9 s10 (.fz (tabD cs out))) Q) :
    wS (sSeq pP6 rest) (e5 c w n s5 s6 s7 (.ow (.list rs)) s9 s10 .un) Q := by
  obtain ⟨cs, hcs, hcp, hcu⟩ := sort_names hn
  have hrl : rs.length = ks.length := by
    have := congrArg List.length P.keys
    simpa using this
  have hnd : ((rs.map fun d => srt (rowOf d)).map (·.1)).Nodup := by
    rw [List.map_map]
    have e3 : rs.map ((fun q : Row => q.1) ∘ fun d => srt (rowOf d)) = ks := by
      rw [← P.keys, List.map_map]
      rfl
    rw [e3]
    exact hk
  obtain ⟨out, ho1, ho2, ho3⟩ := sort_rows hnd
  have hraw : ∀ d, d ∈ rs → ∃ (k : Str) (zs : List Str) (t : D), d = .tuple [.str k, t] ∧ SeqD t (zs.map .str) ∧ zs.length ≤ 40 ∧ (∀ z, z ∈ zs → smS z = true) ∧ smS k = true ∧ rowOf d = (k, zs) := fun d hd => by
    obtain ⟨k, zs, t, rfl, h1, h2, h3, h4⟩ := P.raw d hd
    have hkm : k ∈ ks := by
      rw [← P.keys]
      exact List.mem_map.mpr ⟨rowOf (.tuple [.str k, t]), List.mem_map.mpr ⟨_, hd, rfl⟩, by rw [raw_row h1]⟩
    exact ⟨k, zs, t, rfl, h1, Nat.le_trans (pigeon h3 h4) hl, fun z hz => (hsm z (h4 z hz)).2, (hksm k hkm).2, raw_row h1⟩
  have hpl : ∀ d, d ∈ (rs.map fun d => srt (rowOf d)).map rowR → sm 2 d = true := fun d hd => by
    obtain ⟨q, hq, rfl⟩ := List.mem_map.mp hd
    obtain ⟨d2, hd2, rfl⟩ := List.mem_map.mp hq
    obtain ⟨k, zs, t, rfl, h1, h2, h3, h4, e⟩ := hraw d2 hd2
    rw [e]
    have hp := List.mergeSort_perm zs strLe
    exact PL.t (k := 2) (PL.cons (by rw [sm_s]; exact h4) (PL.cons (strs_sm1 (by rw [show (srt (k, zs)).2.length = zs.length from hp.length_eq]; omega) fun z hz => h3 z (hp.mem_iff.mp hz)) PL.nil)) (by omega)
  have hsort := rows_ok (rows := rs.map fun d => srt (rowOf d)) (by rw [List.length_map]; omega) hpl
  rw [w_seq]
  unfold pP6
  rw [w_set, w_tup, w_cons]
  refine (ev_cbV (evs_cons (ev_cb1n (rds_of h6 rfl) (z := .list (cs.map .str)) ?_ c).toD evs_nil) dTup_l).mono ?_
  · rw [dSorted_l, if_pos (sort_ok (fun z hz => (hsm z hz).2) (by omega)), hcs]
  rintro x e1 ⟨rfl, rfl⟩
  rw [w_cons]
  have hrow : wM (mCb dTup (mCons (mCb dSorted (mCons (mLc [9, 14] (gTpN 2 (gCn (gNm 9) (gCn (gNm 14) gNl))) (mIt (mVar 8)) (mRet true) (mTup (mCons (mVar 9) (mCons (mCb dTup (mCons (mCb dSorted (mCons (mVar 14) mNil)) mNil)) mNil)))) mNil)) mNil)) (e5 c w n s5 s6 s7 (.ow (.list rs)) s9 s10 .un) fun x e1 => e1 = e5 c w n s5 s6 s7 (.fz (.list rs)) s9 s10 .un ∧ x = .v (.tuple (out.map rowR)) := by
    rw [w_cb, w_cons, w_cb, w_cons]
    refine wM.mono (Q := fun x e1 => e1 = e5 c w n s5 s6 s7 (.fz (.list rs)) s9 s10 .un ∧ x = .nw (.list ((rs.map fun d => srt (rowOf d)).map rowR))) ?_ ?_
    · refine lc_mp ?_
      refine it_ow (e := e5 c w n s5 s6 s7 (.ow (.list rs)) s9 s10 .un) (e1 := e5 c w n s5 s6 s7 (.fz (.list rs)) s9 s10 .un) (d := .list rs) (ds := rs) rfl rfl rfl ?_
      have ho : ownOk (e5 c w n s5 s6 s7 (.fz (.list rs)) s9 s10 .un) [9, 14] = true := by
        rcases h9 with rfl | ⟨d, rfl⟩ <;> rfl
      refine ⟨ho, by omega, srtD, fun d hd => ?_, ?_, ?_⟩
      · obtain ⟨k, zs, t, rfl, h1, h2, h3, h4, e⟩ := hraw d hd
        refine ⟨[.bo c, .fz (.str w), .fz (.int n), q3 w n, q4 w n, s5, s6, s7, .fz (.list rs), .fz (.str k), s10, .un, .un, .un, .fz t], rfl, ?_⟩
        rw [w_ret]
        refine ⟨rfl, ?_⟩
        have hs : dSorted [t] = some (.nw (.list ((zs.mergeSort strLe).map .str))) := by
          rcases h1 with rfl | rfl
          · rw [dSorted_l, if_pos (sort_ok h3 (by omega)), sortD_strs]
          · rw [dSorted_t, if_pos (sort_ok h3 (by omega)), sortD_strs]
        refine (ev_tup (evs_cons (ev_var (d := .str k) rfl).toD (evs_cons (ev_cbV (evs_cons (ev_cbN (evs_cons (ev_var (d := t) rfl).toD evs_nil) hs).toD evs_nil) dTup_l).toD evs_nil)) (by simp)).mono ?_
        rintro x e4 ⟨rfl, rfl⟩
        rw [w_val_v]
        refine ⟨?_, rfl⟩
        unfold srtD
        rw [e]
        rfl
      · rfl
      · rw [List.map_map]
        rfl
    · rintro x e1 ⟨rfl, rfl⟩
      rw [w_nil, ds_cons, d_nw, ds_nil]
      show wL dSorted (some [.list _]) _ _
      rw [wL_some, dSorted_l, if_pos hsort, ho1, wO_some, w_nil, ds_cons, d_nw, ds_nil]
      show wL dTup (some [.list _]) _ _
      rw [wL_some, dTup_l, wO_some]
      exact ⟨rfl, rfl⟩
  refine hrow.mono ?_
  rintro x e1 ⟨rfl, rfl⟩
  rw [w_nil, w_vals_cons, w_val_v, w_vals_cons, w_val_v, w_vals_nil]
  refine ⟨by rw [sizeLine_eq]; simp, ?_⟩
  rw [wSet_v]
  exact h cs out _ hcp hcu ho2 ho3
theorem pP7_spec {t : D} (h6 : OwFz s6 (.list (ns.map .str))) (h7 : OwFz s7 (.list (ks.map .str))) (hnk : n ≤ ks.length) (hcn : cnt w n ≤ ns.length)
    (h : Q.rt (.v (.tuple [t, .tuple [.str w, .tuple ((ks.take n).map .str), .tuple ((ns.take (cnt w n)).map .str)]])) (e5 c w n s5 s6 s7 s8 s9 s10 (.fz t))) : wS (sSeq pP7 rest) (e5 c w n s5 s6 s7 s8 s9 s10 (.fz t)) Q := by
  have e1 : Fw.cutD (ks.map PyData.str) none (some (n : Int)) = (ks.take n).map .str := by
    rw [cut_to (by omega) (by rw [List.length_map]; omega), Int.toNat_natCast, List.map_take]
  have e2 : Fw.cutD (ns.map PyData.str) none (some (cnt w n : Int)) = (ns.take (cnt w n)).map .str := by
    rw [cut_to (by omega) (by rw [List.length_map]; omega), Int.toNat_natCast, List.map_take]
  rw [← e1, ← e2] at h
  refine sq_ret (ev_tup (evs_cons (ev_var rfl).toD (evs_cons (ev_tup (evs_cons (ev_var rfl).toD (evs_cons (ev_cbV (evs_cons (ev_slL ((rds_of h7 rfl).rd c) ep_none (ep_some (ev_var (d := .int n) rfl).toD)).toD evs_nil) dTup_l).toD (evs_cons (ev_cbV (evs_cons (ev_slL ((rds_of h6 rfl).rd c) ep_none (ep_some (ev_var (d := iD (cnt w n)) rfl).toD)).toD evs_nil) dTup_l).toD evs_nil))) (by simp)).toD evs_nil)) (by simp)) h
end
def coreV (w : Str) (K N : List Str) : D := .tuple [.str w, .tuple (K.map .str), .tuple (N.map .str)]
theorem law_planted_spec {w : Str} {n : Nat} {c : D} (hok : okW w n = true) (hc : CupOk c) : wF f_law_planted [.bo c, .fz (.str w), .fz (.int n)] fun x o => ∃ (cs : List Str) (rows : List Row) (K N : List Str) (c' : D), x = .v (.tuple [tabD cs rows, coreV w K N]) ∧ TabG cs rows ∧ coreS cs rows w K N = true ∧ K.length = n ∧ CupOk c' ∧ o = [.bo c', .un, .un] := by
  refine w_def rfl ?_
  rw [pP_eq]
  obtain ⟨d1, d2, d3, d4⟩ := due_ok hok
  refine pP0_spec hok (pP1_spec hok hc fun c z hc h0 h1 => pP2_spec h0 h1 hc fun c ns hc hns => pP3_spec hok hc fun c ks m hc hm1 hm2 hks => ?_)
  have hnl : ns.length = (z + cnt w n).toNat := by rw [hns.length_eq, num_len]
  have hkl : ks.length = m := by rw [hks.length_eq, num_len]
  have hnd : ns.Nodup := hns.nodup_iff.mpr ((num_sub (by omega)).nodup num_nd.1)
  have hkd : ks.Nodup := hks.nodup_iff.mpr ((num_sub (by omega)).nodup num_nd.2)
  have hnok : ∀ z, z ∈ ns → isNm (.str z) = true ∧ smS z = true := fun z hz => num_c (by omega) (hns.mem_iff.mp hz)
  have hkok : ∀ z, z ∈ ks → isNm (.str z) = true ∧ smS z = true := fun z hz => num_k (by omega) (hks.mem_iff.mp hz)
  have hn0 : ns ≠ [] := by
    obtain ⟨r, hr⟩ : ∃ r, (due w n)[0]? = some r := ⟨_, List.getElem?_eq_getElem (by omega)⟩
    have hr2 := List.mem_of_getElem? hr
    obtain ⟨j, hj⟩ := List.exists_mem_of_ne_nil r (due_ne hok hr2)
    have := (d2 r hr2).2.1 j hj
    rintro rfl
    simp at hnl
    omega
  refine sq_setC (rest := sSeq pP5 (sSeq pP6 (sSeq pP7 sSkip))) hc (pP4_ec (ks := ks) (ns := ns) hok (by omega) (by omega) (by omega) fun ys hyl hy => ⟨_, _, .inr ⟨_, rfl, rfl⟩, fun _ => rfl, fun c hc => ?_⟩)
  obtain ⟨p1, p2, p3⟩ := R4_plant hok (by omega) (by omega) hnd hyl hy
  refine pP5_spec hc hnd hn0 (by omega) (fun z hz => (hnok z hz).2) (by omega) (by omega) hyl fun c s6 s9 s10 more hc h6 h9 h10 hmk hmr => ?_
  have P : Plant w n ks ns (ys ++ more) := by
    refine ⟨fun d hd => ?_, ?_, fun i hi r hin hr j hj hj2 => ?_⟩
    · rcases List.mem_append.mp hd with hd | hd
      · exact p1 d hd
      · exact hmr d hd
    · rw [List.map_append, List.map_append, p2, hmk, List.take_append_drop]
    · have hi2 : i < ys.length := by omega
      rw [List.getElem_append_left hi2]
      exact p3 i hi2 r hr j hj hj2
  refine pP6_spec P h6 h9 (by omega) (by omega) hnok hkok hnd hkd fun cs out s8 hcp hcu ho1 ho2 => ?_
  refine pP7_spec h6 (.inl rfl) (by omega) (by omega) ?_
  exact ⟨cs, out, ks.take n, ns.take (cnt w n), c, rfl, plant_tab P (by omega) (by omega) hnok hkok ho1 ho2 hcp hcu, plant_core hok P hkd hnd (by omega) (by omega) ho1 fun z hz => hcp.mem_iff.mpr hz, by rw [List.length_take]; omega, hc, rfl⟩
end L_k31
set_option Elab.async false
set_option linter.all false
set_option maxRecDepth 100000
set_option maxHeartbeats 1000000
namespace L_k31
open PySem PySem.Spec PyProof.Rows L2 Fw
/-! turned about -/
def tK {α : Type} (w : Str) (n at_ : Nat) (b : Bool) (l : List α) : List α :=
  if w = "ring" then (if b = true then ((l.drop at_ ++ l.take at_).take (n - 1)).reverse ++ (l.drop at_ ++ l.take at_).drop (n - 1) else l.drop at_ ++ l.take at_)
  else if w = "arch" then (l.take (n - 2)).reverse ++ (l.drop (n - 2)).reverse
  else if w = "fork" then (l.take (n - 1)).reverse ++ l.drop (n - 1)
  else if w = "step" then (l.take 2).reverse ++ l.drop 2
  else (l.drop at_).take (3 - at_) ++ l.take at_ ++ l.drop 3
def tN {α : Type} (w : Str) (n at_ : Nat) (b : Bool) (l : List α) : List α :=
  if w = "ring" then (if b = true then (l.drop at_ ++ l.take at_).reverse else l.drop at_ ++ l.take at_)
  else if w = "arch" then (l.take (n - 1)).reverse ++ l.drop (n - 1)
  else if w = "fork" then (l.take n).reverse ++ l.drop n
  else if w = "step" then (l.drop 2).take 2 ++ l.take 2 ++ l.drop 4
  else l.drop (2 * at_) ++ l.take (2 * at_)
theorem tK_map {α β : Type} {f : α → β} {w : Str} {n a : Nat} {b : Bool} {l : List α} : tK w n a b (l.map f) = (tK w n a b l).map f := by
  unfold tK
  simp only [← List.map_take, ← List.map_drop, ← List.map_append, ← List.map_reverse]
  split
  · split <;> rfl
  · split
    · rfl
    · split
      · rfl
      · split <;> rfl
theorem tN_map {α β : Type} {f : α → β} {w : Str} {n a : Nat} {b : Bool} {l : List α} : tN w n a b (l.map f) = (tN w n a b l).map f := by
  unfold tN
  simp only [← List.map_take, ← List.map_drop, ← List.map_append, ← List.map_reverse]
  split
  · split <;> rfl
  · split
    · rfl
    · split
      · rfl
      · split <;> rfl
def okT (w : Str) (n a : Nat) (b : Bool) : Bool := if w = "ring" then decide (a < n) else !b && (if w = "comb" then decide (a = 1 ∨ a = 2) else decide (a = 0))
def chkT (w : Str) (n a : Nat) (b : Bool) : Bool :=
  let k := tK w n a b (List.range n)
  let m := tN w n a b (List.range (cnt w n))
  k.isPerm (List.range n) && m.isPerm (List.range (cnt w n)) && (List.range n).all fun i => (List.range (cnt w n)).all fun j => decide (m.getD j 0 ∈ (due w n).getD (k.getD i 0) []) == decide (j ∈ (due w n).getD i [])
theorem turn_chk : ∀ w ∈ W5, ∀ n : Fin 21, okW w n = true → ∀ a : Fin 21, ∀ b : Bool, okT w n a b = true → chkT w n a b = true := by decide +kernel
theorem as_map {zs : List Str} : zs = (List.range zs.length).map (nA zs) := by
  refine List.ext_getElem (by simp) fun i h1 h2 => ?_
  rw [List.getElem_map, List.getElem_range, nA_get h1]
theorem turn_core {cs : List Str} {rows : List Row} {w : Str} {K N : List Str} {a : Nat} {b : Bool} (h : coreS cs rows w K N = true) (ht : okT w K.length a b = true) (ha : a ≤ 20) : coreS cs rows w (tK w K.length a b K) (tN w K.length a b N) = true := by
  have C := core_get h
  have hn := (okW_get C.ok).2.2.2
  have hc := turn_chk w (okW_get C.ok).1 ⟨K.length, by omega⟩ C.ok ⟨a, by omega⟩ b ht
  unfold chkT at hc
  simp only [Bool.and_eq_true, List.all_eq_true, beq_iff_eq, List.mem_range, decide_eq_decide] at hc
  obtain ⟨⟨h1, h2⟩, h3⟩ := hc
  have p1 := List.isPerm_iff.mp h1
  have p2 := List.isPerm_iff.mp h2
  have eK : tK w K.length a b K = (tK w K.length a b (List.range K.length)).map (nA K) := by
    conv => lhs; rw [as_map (zs := K), List.length_map, List.length_range]
    rw [tK_map]
  have eN : tN w K.length a b N = (tN w K.length a b (List.range N.length)).map (nA N) := by
    conv => lhs; rw [as_map (zs := N)]
    rw [tN_map]
  rw [C.len] at eN
  generalize tK w K.length a b (List.range K.length) = k at eK p1 h3
  generalize tN w K.length a b (List.range (cnt w K.length)) = m at eN p2 h3
  have pK : (tK w K.length a b K).Perm K := by
    rw [eK]
    conv => rhs; rw [as_map (zs := K)]
    exact p1.map _
  have pN : (tN w K.length a b N).Perm N := by
    rw [eN]
    conv => rhs; rw [as_map (zs := N), C.len]
    exact p2.map _
  have lk : k.length = K.length := by rw [p1.length_eq, List.length_range]
  have lm : m.length = cnt w K.length := by rw [p2.length_eq, List.length_range]
  obtain ⟨d1, d2, d3, d4⟩ := due_ok C.ok
  refine core_of ⟨by rw [pK.length_eq]; exact C.ok, pK.nodup_iff.mpr C.knd, pN.nodup_iff.mpr C.nnd, by rw [pK.length_eq, pN.length_eq]; exact C.len, fun z hz => C.kin z (pK.mem_iff.mp hz), fun z hz => C.nin z (pN.mem_iff.mp hz), ?_⟩
  intro i hi r hr j hj
  rw [pK.length_eq] at hi hr
  rw [pN.length_eq, C.len] at hj
  have hki : k[i]'(by omega) < K.length := List.mem_range.mp (p1.mem_iff.mp (List.getElem_mem (by omega)))
  have hmj : m[j]'(by omega) < N.length := by
    rw [C.len]
    exact List.mem_range.mp (p2.mem_iff.mp (List.getElem_mem (by omega)))
  have e1 : (tK w K.length a b K)[i]'(by rw [pK.length_eq]; exact hi) = K[k[i]'(by omega)]'hki := by
    simp only [eK, List.getElem_map]
    exact nA_get hki
  have e2 : (tN w K.length a b N)[j]'(by rw [pN.length_eq, C.len]; exact hj) = N[m[j]'(by omega)]'hmj := by
    simp only [eN, List.getElem_map]
    exact nA_get hmj
  rw [e1, e2]
  have hr2 : (due w K.length)[k[i]'(by omega)]? = some ((due w K.length)[k[i]'(by omega)]'(by rw [d1]; exact hki)) := List.getElem?_eq_getElem _
  rw [C.at_ _ hki _ hr2 _ hmj]
  have h4 := h3 i hi j hj
  have g : ∀ (l : List Nat) (i : Nat) (h : i < l.length), l.getD i 0 = l[i] := fun l i h => by rw [List.getD_eq_getElem?_getD, List.getElem?_eq_getElem h]; rfl
  rw [g m j (by omega), g k i (by omega), List.getD_eq_getElem?_getD, List.getD_eq_getElem?_getD, hr2, hr] at h4
  exact h4
end L_k31
set_option Elab.async false
set_option linter.all false
set_option maxRecDepth 100000
set_option maxHeartbeats 1000000
namespace L_k31
open PySem PySem.Spec PyProof.Rows L2 Fw
def pT0 : So := (sGet (gTpN 3 (gCn (gNm 2) (gCn (gNm 3) (gCn (gNm 4) gNl)))) (mVar 1))
def pT1 : So := (sSet 5 (mCb dLen (mCons (mVar 3) mNil)))
def pT2 : So := (sIf (mTst (mOp (opB dEq) (mVar 2) (mC (.str "ring")))) (sSeq (sSet 6 (mCall [true] f_law_roll (mCons (mVar 0) (mCons (mVar 5) mNil)))) (sSeq (sPar [3, 4] (mConsF (mOp dAdd (mSl dSl (mVar 3) (mPart (mVar 6)) mNoPart) (mSl dSl (mVar 3) mNoPart (mPart (mVar 6)))) (mConsF (mOp dAdd (mSl dSl (mVar 4) (mPart (mVar 6)) mNoPart) (mSl dSl (mVar 4) mNoPart (mPart (mVar 6)))) mNil))) (sSeq (sRet (mIf (mTst (mOp (opB dEq) (mCall [true] f_law_roll (mCons (mVar 0) (mCons (mC (.int 2)) mNil))) (mC (.int 0)))) (mTup (mCons (mVar 2) (mCons (mVar 3) (mCons (mVar 4) mNil)))) (mTup (mCons (mVar 2) (mCons (mOp dAdd (mOp dRevF (mVar 3) (mOp dSub (mVar 5) (mC (.int 2)))) (mSl dSl (mVar 3) (mPart (mOp dSub (mVar 5) (mC (.int 1)))) mNoPart)) (mCons (mRev (mVar 4)) mNil)))))) sSkip))) sSkip)
def pT3 : So := (sIf (mTst (mOp (opB dEq) (mVar 2) (mC (.str "arch")))) (sSeq (sRet (mTup (mCons (mVar 2) (mCons (mOp dAdd (mRev (mSl dSl (mVar 3) mNoPart (mPart (mOp dSub (mVar 5) (mC (.int 2)))))) (mTup (mCons (mOp dIx (mVar 3) (mOp dSub (mVar 5) (mC (.int 1)))) (mCons (mOp dIx (mVar 3) (mOp dSub (mVar 5) (mC (.int 2)))) mNil)))) (mCons (mOp dAdd (mRev (mSl dSl (mVar 4) mNoPart (mPart (mOp dSub (mVar 5) (mC (.int 1)))))) (mSl dSl (mVar 4) (mPart (mOp dSub (mVar 5) (mC (.int 1)))) mNoPart)) mNil))))) sSkip) sSkip)
def pT4 : So := (sIf (mTst (mOp (opB dEq) (mVar 2) (mC (.str "fork")))) (sSeq (sRet (mTup (mCons (mVar 2) (mCons (mOp dAdd (mRev (mSl dSl (mVar 3) mNoPart (mPart (mOp dSub (mVar 5) (mC (.int 1)))))) (mSl dSl (mVar 3) (mPart (mOp dSub (mVar 5) (mC (.int 1)))) mNoPart)) (mCons (mOp dAdd (mRev (mSl dSl (mVar 4) mNoPart (mPart (mVar 5)))) (mSl dSl (mVar 4) (mPart (mVar 5)) mNoPart)) mNil))))) sSkip) sSkip)
def pT5 : So := (sIf (mTst (mOp (opB dEq) (mVar 2) (mC (.str "step")))) (sSeq (sRet (mTup (mCons (mVar 2) (mCons (mOp dAdd (mTup (mCons (mOp dIx (mVar 3) (mC (.int 1))) (mCons (mOp dIx (mVar 3) (mC (.int 0))) mNil))) (mSl dSl (mVar 3) (mPart (mC (.int 2))) mNoPart)) (mCons (mOp dAdd (mOp dAdd (mSl dSl (mVar 4) (mPart (mC (.int 2))) (mPart (mC (.int 4)))) (mSl dSl (mVar 4) mNoPart (mPart (mC (.int 2))))) (mSl dSl (mVar 4) (mPart (mC (.int 4))) mNoPart)) mNil))))) sSkip) sSkip)
def pT6 : So := (sSet 6 (mOp dAdd (mC (.int 1)) (mCall [true] f_law_roll (mCons (mVar 0) (mCons (mC (.int 2)) mNil)))))
def pT7 : So := (sRet (mTup (mCons (mVar 2) (mCons (mOp dAdd (mOp dAdd (mSl dSl (mVar 3) (mPart (mVar 6)) (mPart (mC (.int 3)))) (mSl dSl (mVar 3) mNoPart (mPart (mVar 6)))) (mSl dSl (mVar 3) (mPart (mC (.int 3))) mNoPart)) (mCons (mOp dAdd (mSl dSl (mVar 4) (mPart (mOp dMul (mC (.int 2)) (mVar 6))) mNoPart) (mSl dSl (mVar 4) mNoPart (mPart (mOp dMul (mC (.int 2)) (mVar 6))))) mNil)))))
theorem pT_eq : m_law_turned = sSeq pT0 (sSeq pT1 (sSeq pT2 (sSeq pT3 (sSeq pT4 (sSeq pT5 (sSeq pT6 (sSeq pT7 sSkip))))))) := rfl
/-! tuples of texts, by expressions -/
theorem cut_mid {ds : List D} {a b : Int} (h : 0 ≤ a) (h2 : a ≤ ds.length) (h3 : 0 ≤ b) (h4 : b ≤ ds.length) : Fw.cutD ds (some a) (some b) = (ds.drop a.toNat).take (b.toNat - a.toNat) := by
  unfold Fw.cutD
  show (ds.drop (if a < 0 then (a + (ds.length : Int)).toNat else min a.toNat ds.length)).take ((if b < 0 then (b + (ds.length : Int)).toNat else min b.toNat ds.length) - (if a < 0 then (a + (ds.length : Int)).toNat else min a.toNat ds.length)) = _
  rw [if_neg (by omega), if_neg (by omega), Nat.min_eq_left (by omega), Nat.min_eq_left (by omega)]
def Tx (m : Mo Vx) (e : En) (K : List Str) : Prop := EvV m e (.tuple (K.map .str))
section
variable {e : En} {i : Nat} {m m2 mz mb : Mo Vx} {K L : List Str} {z y : Int} {a b : Nat}
theorem tx_var (h : e[i]? = some (.fz (.tuple (K.map .str)))) : Tx (mVar i) e K := ev_var h
theorem tx_from (h : Tx m e K) (hz : EvD mz e (.int z)) (ha : z = a) (hl : a ≤ K.length) : Tx (mSl dSl m (mPart mz) mNoPart) e (K.drop a) := by
  have := ev_slT h.toD (ep_some hz) ep_none
  rw [cut_from (by omega) (by rw [List.length_map]; omega)] at this
  have e1 : z.toNat = a := by omega
  rw [e1, ← List.map_drop] at this
  exact this
theorem tx_to (h : Tx m e K) (hz : EvD mz e (.int z)) (ha : z = a) (hl : a ≤ K.length) : Tx (mSl dSl m mNoPart (mPart mz)) e (K.take a) := by
  have := ev_slT h.toD ep_none (ep_some hz)
  rw [cut_to (by omega) (by rw [List.length_map]; omega)] at this
  have e1 : z.toNat = a := by omega
  rw [e1, ← List.map_take] at this
  exact this
theorem tx_mid (h : Tx m e K) (hz : EvD mz e (.int z)) (hy : EvD mb e (.int y)) (ha : z = a) (hb : y = b) (hl : a ≤ K.length) (hl2 : b ≤ K.length) : Tx (mSl dSl m (mPart mz) (mPart mb)) e ((K.drop a).take (b - a)) := by
  have := ev_slT h.toD (ep_some hz) (ep_some hy)
  rw [cut_mid (by omega) (by rw [List.length_map]; omega) (by omega) (by rw [List.length_map]; omega)] at this
  have e1 : z.toNat = a := by omega
  have e2 : y.toNat = b := by omega
  rw [e1, e2, ← List.map_drop, ← List.map_take] at this
  exact this
theorem tx_rev (h : Tx m e K) : Tx (mRev m) e K.reverse := by
  have := ev_unV h.toD dRev_t
  rw [← List.map_reverse] at this
  exact this
theorem tx_revF (h : Tx m e K) (hz : EvD mz e (.int z)) (ha : z = a) (hl : a < K.length) : Tx (mOp dRevF m mz) e (K.take (a + 1)).reverse := by
  have := ev_opV (f := dRevF) (z := .tuple ((K.map PyData.str).take (a + 1)).reverse) h.toD hz (by
    show (if 0 ≤ z ∧ z < ((K.map PyData.str).length : Int) then some (Vx.v (.tuple ((K.map PyData.str).take (z.toNat + 1)).reverse)) else none) = _
    rw [if_pos ⟨by omega, by rw [List.length_map]; omega⟩]
    have e1 : z.toNat = a := by omega
    rw [e1])
  rw [← List.map_take, ← List.map_reverse] at this
  exact this
theorem tx_add (h : Tx m e K) (h2 : Tx m2 e L) (hl : K.length + L.length ≤ 1000) : Tx (mOp dAdd m m2) e (K ++ L) := by
  have := ev_addT h.toD h2.toD (by rw [List.length_map, List.length_map]; omega)
  rw [← List.map_append] at this
  exact this
theorem tx_ix (h : Tx m e K) (hz : EvD mz e (.int z)) (ha : z = a) (hl : a < K.length) : EvV (mOp dIx m mz) e (.str (nA K a)) := by
  refine ev_opV h.toD hz ?_
  rw [dIx_t, strs_atI (by omega) (z := nA K a)]
  · rfl
  · have e1 : z.toNat = a := by omega
    rw [e1, nA_get hl]
    exact List.getElem?_eq_getElem hl
theorem tx_two {x1 x2 : Str} (h : EvV m e (.str x1)) (h2 : EvV m2 e (.str x2)) : Tx (mTup (mCons m (mCons m2 mNil))) e [x1, x2] := ev_tup (evs_cons h.toD (evs_cons h2.toD evs_nil)) (by simp)
theorem tx_core {w : Str} {m0 : Mo Vx} (h0 : EvV m0 e (.str w)) (h : Tx m e K) (h2 : Tx m2 e L) : EvV (mTup (mCons m0 (mCons m (mCons m2 mNil)))) e (coreV w K L) := ev_tup (evs_cons h0.toD (evs_cons h.toD (evs_cons h2.toD evs_nil))) (by simp)
theorem ev_int2 {f : Int → Int → Int} {g : D → D → Option Vx} (hg : ∀ x y, g (.int x) (.int y) = some (.v (.int (f x y)))) (h1 : EvD m e (.int z)) (h2 : EvD m2 e (.int y)) : EvD (mOp g m m2) e (.int (f z y)) := (ev_opV h1 h2 (hg z y)).toD
theorem ev_sub (h1 : EvD m e (.int z)) (h2 : EvD m2 e (.int y)) : EvD (mOp dSub m m2) e (.int (z - y)) := (ev_opV h1 h2 dSub_i).toD
theorem ev_add (h1 : EvD m e (.int z)) (h2 : EvD m2 e (.int y)) : EvD (mOp dAdd m m2) e (.int (z + y)) := (ev_opV h1 h2 dAdd_i).toD
theorem eb_word {w x : Str} (h : EvV m e (.str w)) : EvB (mTst (mOp (opB dEq) m (mC (.str x)))) e (decide (w = x)) := by
  refine eb_cmp h.toD ev_c.toD ?_
  rw [dEq_s]
  congr 1
end
theorem two_rev {K : List Str} {n : Nat} (h : K.length = n) (h2 : 2 ≤ n) : [nA K (n - 1), nA K (n - 2)] = (K.drop (n - 2)).reverse := by
  have e1 : K.drop (n - 2) = [nA K (n - 2), nA K (n - 1)] := by
    rw [List.drop_eq_getElem_cons (by omega), List.drop_eq_getElem_cons (by omega), List.drop_eq_nil_of_le (by omega), nA_get (by omega), nA_get (by omega)]
    congr 3
    omega
  rw [e1]
  rfl
theorem two_first {K : List Str} (h : 2 ≤ K.length) : [nA K 1, nA K 0] = (K.take 2).reverse := by
  match K, h with
  | a :: b :: r, _ => rfl
/-- what a turned core is -/
def TurnQ (w : Str) (K N : List Str) (d : D) : Prop := ∃ (a : Nat) (b : Bool), okT w K.length a b = true ∧ a ≤ 20 ∧ d = coreV w (tK w K.length a b K) (tN w K.length a b N)
def rT (core : D) (w : Str) (K N : List Str) (s5 s6 : Sl) : En := [.fz core, .fz (.str w), .fz (.tuple (K.map .str)), .fz (.tuple (N.map .str)), s5, s6]
section
variable {core c : D} {w : Str} {K N : List Str} {s5 s6 : Sl} {Q : Ed} {rest : So}
theorem turned_spec (hc : CupOk c) (hok : okW w K.length = true) (hN : N.length = cnt w K.length) : wF f_law_turned [.bo c, .fz (coreV w K N)] fun x o => ∃ (d c' : D), x = .v d ∧ TurnQ w K N d ∧ CupOk c' ∧ o = [.bo c', .un] := by
  refine w_def rfl ?_
  rw [pT_eq]
  obtain ⟨hw5, hlo, hhi, hn⟩ := okW_get hok
  have hQ : ∀ (c' d : D) (e : En), CupOk c' → TurnQ w K N d → (edF [.bo c, .fz (coreV w K N)] fun x o => ∃ (d c' : D), x = .v d ∧ TurnQ w K N d ∧ CupOk c' ∧ o = [.bo c', .un]).rt (.v d) (.bo c' :: .fz (coreV w K N) :: e) := fun c' d e h1 h2 => ⟨d, c', rfl, h2, h1, by simp⟩
  generalize edF [.bo c, .fz (coreV w K N)] (fun x o => ∃ (d c' : D), x = .v d ∧ TurnQ w K N d ∧ CupOk c' ∧ o = [.bo c', .un]) = Q at hQ ⊢
  generalize hcore : coreV w K N = core at hQ ⊢
  show wS _ [.bo c, .fz core, .un, .un, .un, .un, .un] Q
  refine sq_get (e1 := .bo c :: rT core w K N .un .un) (ev_var rfl).toD (by rw [← hcore]; rfl) ?_
  refine sq_setV (d := .int (K.length : Nat)) (e1 := .bo c :: rT core w K N (.fz (.int (K.length : Nat))) .un) (ev_cbV (evs_cons (ev_var (d := .tuple (K.map .str)) rfl).toD evs_nil) (by rw [dLen_t, List.length_map])) rfl ?_
  have vw : ∀ (c : D) (s5 s6 : Sl), EvV (mVar 2) (.bo c :: rT core w K N s5 s6) (.str w) := fun _ _ _ => ev_var rfl
  have v3 : ∀ (c : D) (s5 s6 : Sl), Tx (mVar 3) (.bo c :: rT core w K N s5 s6) K := fun _ _ _ => tx_var rfl
  have v4 : ∀ (c : D) (s5 s6 : Sl), Tx (mVar 4) (.bo c :: rT core w K N s5 s6) N := fun _ _ _ => tx_var rfl
  have v5 : ∀ (c : D) (s6 : Sl), EvD (mVar 5) (.bo c :: rT core w K N (.fz (.int (K.length : Nat))) s6) (.int (K.length : Nat)) := fun _ _ => (ev_var rfl).toD
  have hC : ∀ (z : Int) (e : En), EvD (mC (.int z)) e (.int z) := fun _ _ => ev_c.toD
  have c3 : 3 ≤ K.length := by
    have : 3 ≤ lo w := by unfold lo; split <;> omega
    omega
  have hcn : ∀ x, w = x → cnt x K.length = N.length := fun x e => by rw [← e, hN]
  refine sq_if (eb_word (vw _ _ _)) (fun hb => ?_) fun hb => ?_
  · -- ring
    have hwr : w = "ring" := of_decide_eq_true hb
    have hNl : N.length = K.length := by rw [hN, hwr]; rfl
    refine sq_asc (sq_setC hc (EC.mono (ec_call (ecl_cons (ec_v (d := .int (K.length : Nat)) (fun c => ev_var rfl) (ecl_nil ⟨_, .cons vst_v .nil, roll_drw roll_ok (by omega) (by omega)⟩)))) ?_))
    rintro x ⟨z, rfl, h0, h1⟩
    refine ⟨_, rT core w K N (.fz (.int (K.length : Nat))) (.fz (.int z)), .inl ⟨_, rfl, rfl⟩, fun _ => rfl, fun c hc => ?_⟩
    obtain ⟨a, ha⟩ : ∃ a : Nat, z = a := ⟨z.toNat, by omega⟩
    have va : ∀ (c : D) (s5 : Sl), EvD (mVar 6) (.bo c :: rT core w K N s5 (.fz (.int z))) (.int z) := fun _ _ => (ev_var rfl).toD
    have t3 : ∀ c : D, Tx _ (.bo c :: rT core w K N (.fz (.int (K.length : Nat))) (.fz (.int z))) (K.drop a ++ K.take a) := fun c => tx_add (tx_from (v3 _ _ _) (va _ _) ha (by omega)) (tx_to (v3 _ _ _) (va _ _) ha (by omega)) (by simp; omega)
    have t4 : ∀ c : D, Tx _ (.bo c :: rT core w K N (.fz (.int (K.length : Nat))) (.fz (.int z))) (N.drop a ++ N.take a) := fun c => tx_add (tx_from (v4 _ _ _) (va _ _) ha (by omega)) (tx_to (v4 _ _ _) (va _ _) ha (by omega)) (by simp; omega)
    refine sq_asc (sq_parC hc (ecl_consF (ec_v t3 ⟨rfl, ecl_consF (ec_v t4 ⟨rfl, ecl_nil ⟨rT core w (K.drop a ++ K.take a) (N.drop a ++ N.take a) (.fz (.int (K.length : Nat))) (.fz (.int z)), fun _ => rfl, fun c hc => ?_⟩⟩)⟩)))
    have kl : (K.drop a ++ K.take a).length = K.length := by simp; omega
    have nl : (N.drop a ++ N.take a).length = N.length := by simp; omega
    refine sq_asc (sq_retC hc (ec_if (ecb_tst (ec_op (EC.mono (ec_call (ecl_cons (ec_c (ecl_nil ⟨[.int 2], .cons vst_v .nil, roll_drw roll_ok (by omega) (by omega)⟩)))) ?_)))))
    rintro x ⟨y, rfl, g0, g1⟩
    refine ⟨_, vst_v, ec_c ⟨_, vst_v, _, opB_some dEq_i, _, vst_v, ?_⟩⟩
    split
    · refine ec_v (d := coreV w (K.drop a ++ K.take a) (N.drop a ++ N.take a)) (fun c => tx_core (ev_var rfl) (tx_var rfl) (tx_var rfl)) ⟨rfl, fun c hc => hQ c _ _ hc ⟨a, false, ?_, by omega, ?_⟩⟩
      · unfold okT
        rw [if_pos hwr, decide_eq_true (by omega)]
      · unfold tK tN
        rw [if_pos hwr, if_pos hwr, if_neg (by simp), if_neg (by simp)]
    · have vK : ∀ c : D, Tx (mVar 3) (.bo c :: rT core w (K.drop a ++ K.take a) (N.drop a ++ N.take a) (.fz (.int (K.length : Nat))) (.fz (.int z))) (K.drop a ++ K.take a) := fun _ => tx_var rfl
      have v5' : ∀ c : D, EvD (mVar 5) (.bo c :: rT core w (K.drop a ++ K.take a) (N.drop a ++ N.take a) (.fz (.int (K.length : Nat))) (.fz (.int z))) (.int (K.length : Nat)) := fun _ => (ev_var rfl).toD
      refine ec_v (fun c => tx_core (ev_var rfl) (tx_add (tx_revF (vK c) (ev_sub (v5' c) (hC 2 _)) (a := K.length - 2) (by omega) (by omega)) (tx_from (vK c) (ev_sub (v5' c) (hC 1 _)) (a := K.length - 1) (by omega) (by omega)) (by simp; omega)) (tx_rev (tx_var rfl))) ⟨rfl, fun c hc => hQ c _ _ hc ⟨a, true, ?_, by omega, ?_⟩⟩
      · unfold okT
        rw [if_pos hwr, decide_eq_true (by omega)]
      · unfold tK tN
        rw [if_pos hwr, if_pos hwr, if_pos rfl, if_pos rfl]
        have e1 : K.length - 2 + 1 = K.length - 1 := by omega
        rw [e1]
  have hr : w ≠ "ring" := of_decide_eq_false hb
  refine sq_skip ?_
  refine sq_if (eb_word (vw _ _ _)) (fun hb => ?_) fun hb => ?_
  · -- arch
    have hwr : w = "arch" := of_decide_eq_true hb
    have hNl : N.length = K.length := by rw [hN, hwr]; rfl
    refine sq_asc (sq_ret (tx_core (vw _ _ _) (tx_add (tx_rev (tx_to (v3 _ _ _) (ev_sub (v5 _ _) (hC 2 _)) (a := K.length - 2) (by omega) (by omega))) (tx_two (tx_ix (v3 _ _ _) (ev_sub (v5 _ _) (hC 1 _)) (a := K.length - 1) (by omega) (by omega)) (tx_ix (v3 _ _ _) (ev_sub (v5 _ _) (hC 2 _)) (a := K.length - 2) (by omega) (by omega))) (by simp; omega)) (tx_add (tx_rev (tx_to (v4 _ _ _) (ev_sub (v5 _ _) (hC 1 _)) (a := K.length - 1) (by omega) (by omega))) (tx_from (v4 _ _ _) (ev_sub (v5 _ _) (hC 1 _)) (a := K.length - 1) (by omega) (by omega)) (by simp; omega))) (hQ c _ _ hc ⟨0, false, ?_, by omega, ?_⟩))
    · unfold okT
      rw [if_neg hr, hwr]
      decide +kernel
    · unfold tK tN
      rw [if_neg hr, if_pos hwr, if_neg hr, if_pos hwr, two_rev rfl (by omega)]
  have ha : w ≠ "arch" := of_decide_eq_false hb
  refine sq_skip ?_
  refine sq_if (eb_word (vw _ _ _)) (fun hb => ?_) fun hb => ?_
  · -- fork
    have hwr : w = "fork" := of_decide_eq_true hb
    have hNl : N.length = K.length + 1 := by rw [hN, hwr]; rfl
    refine sq_asc (sq_ret (tx_core (vw _ _ _) (tx_add (tx_rev (tx_to (v3 _ _ _) (ev_sub (v5 _ _) (hC 1 _)) (a := K.length - 1) (by omega) (by omega))) (tx_from (v3 _ _ _) (ev_sub (v5 _ _) (hC 1 _)) (a := K.length - 1) (by omega) (by omega)) (by simp; omega)) (tx_add (tx_rev (tx_to (v4 _ _ _) (v5 _ _) (a := K.length) (by omega) (by omega))) (tx_from (v4 _ _ _) (v5 _ _) (a := K.length) (by omega) (by omega)) (by simp; omega))) (hQ c _ _ hc ⟨0, false, ?_, by omega, ?_⟩))
    · unfold okT
      rw [if_neg hr, hwr]
      decide +kernel
    · unfold tK tN
      rw [if_neg hr, if_neg ha, if_pos hwr, if_neg hr, if_neg ha, if_pos hwr]
  have hf : w ≠ "fork" := of_decide_eq_false hb
  have h4 : K.length = 4 := by
    have e1 : ∀ w ∈ W5, w ≠ "ring" → w ≠ "arch" → w ≠ "fork" → lo w = 4 ∧ hi w = 4 := by decide +kernel
    have := e1 w hw5 hr ha hf
    omega
  refine sq_skip ?_
  refine sq_if (eb_word (vw _ _ _)) (fun hb => ?_) fun hb => ?_
  · -- step
    have hwr : w = "step" := of_decide_eq_true hb
    have hNl : N.length = 5 := by rw [hN, hwr]; rfl
    refine sq_asc (sq_ret (tx_core (vw _ _ _) (tx_add (tx_two (tx_ix (v3 _ _ _) (hC 1 _) (a := 1) (by omega) (by omega)) (tx_ix (v3 _ _ _) (hC 0 _) (a := 0) (by omega) (by omega))) (tx_from (v3 _ _ _) (hC 2 _) (a := 2) (by omega) (by omega)) (by simp; omega)) (tx_add (tx_add (tx_mid (v4 _ _ _) (hC 2 _) (hC 4 _) (a := 2) (b := 4) (by omega) (by omega) (by omega) (by omega)) (tx_to (v4 _ _ _) (hC 2 _) (a := 2) (by omega) (by omega)) (by simp; omega)) (tx_from (v4 _ _ _) (hC 4 _) (a := 4) (by omega) (by omega)) (by simp; omega))) (hQ c _ _ hc ⟨0, false, ?_, by omega, ?_⟩))
    · unfold okT
      rw [if_neg hr, hwr]
      decide +kernel
    · unfold tK tN
      rw [if_neg hr, if_neg ha, if_neg hf, if_pos hwr, if_neg hr, if_neg ha, if_neg hf, if_pos hwr, two_first (by omega)]
  have hs : w ≠ "step" := of_decide_eq_false hb
  have hwc : w = "comb" := by
    have e1 : ∀ w ∈ W5, w ≠ "ring" → w ≠ "arch" → w ≠ "fork" → w ≠ "step" → w = "comb" := by decide +kernel
    exact e1 w hw5 hr ha hf hs
  have hNl : N.length = 6 := by rw [hN, hwc]; rfl
  refine sq_skip ?_
  refine sq_setC hc (ec_op (ec_c ⟨.int 1, vst_v, EC.mono (ec_call (ecl_cons (ec_c (ecl_nil ⟨[.int 2], .cons vst_v .nil, roll_drw roll_ok (by omega) (by omega)⟩)))) ?_⟩))
  rintro x ⟨y, rfl, g0, g1⟩
  refine ⟨_, vst_v, _, dAdd_i, _, rT core w K N (.fz (.int (K.length : Nat))) (.fz (.int (1 + y))), .inl ⟨_, rfl, rfl⟩, fun _ => rfl, fun c hc => ?_⟩
  obtain ⟨a, ha⟩ : ∃ a : Nat, 1 + y = a := ⟨(1 + y).toNat, by omega⟩
  have va : ∀ (c : D) (s5 : Sl), EvD (mVar 6) (.bo c :: rT core w K N s5 (.fz (.int (1 + y)))) (.int (1 + y)) := fun _ _ => (ev_var rfl).toD
  have v2a : ∀ (c : D) (s5 : Sl), EvD (mOp dMul (mC (.int 2)) (mVar 6)) (.bo c :: rT core w K N s5 (.fz (.int (1 + y)))) (.int (2 * (1 + y))) := fun _ _ => (ev_opV ev_c.toD (ev_var rfl).toD (by rw [dMul_i, if_pos (.inl ⟨by omega, by omega⟩)])).toD
  refine sq_ret (tx_core (vw _ _ _) (tx_add (tx_add (tx_mid (v3 _ _ _) (va _ _) (hC 3 _) (a := a) (b := 3) (by omega) (by omega) (by omega) (by omega)) (tx_to (v3 _ _ _) (va _ _) (a := a) (by omega) (by omega)) (by simp; omega)) (tx_from (v3 _ _ _) (hC 3 _) (a := 3) (by omega) (by omega)) (by simp; omega)) (tx_add (tx_from (v4 _ _ _) (v2a _ _) (a := 2 * a) (by omega) (by omega)) (tx_to (v4 _ _ _) (v2a _ _) (a := 2 * a) (by omega) (by omega)) (by simp; omega))) (hQ c _ _ hc ⟨a, false, ?_, by omega, ?_⟩)
  · unfold okT
    rw [if_neg hr, if_pos hwc, decide_eq_true (by omega)]
    rfl
  · unfold tK tN
    rw [if_neg hr, if_neg (by assumption), if_neg hf, if_neg hs, if_neg hr, if_neg (by assumption), if_neg hf, if_neg hs]
end
end L_k31
set_option Elab.async false
set_option linter.all false
set_option maxRecDepth 100000
set_option maxHeartbeats 1000000
namespace L_k31
open PySem PySem.Spec PyProof.Rows L2 Fw
def pN0 : So := (sGet (gTpN 3 (gCn (gNm 3) (gCn (gNm 4) (gCn (gNm 5) gNl)))) (mVar 2))
def pN1 : So := (sPar [6, 7, 8] (mConsF (mCall [true] f_law_roll (mCons (mVar 0) (mCons (mCb dLen (mCons (mVar 4) mNil)) mNil))) (mConsF (mCall [true] f_law_roll (mCons (mVar 0) (mCons (mCb dLen (mCons (mVar 5) mNil)) mNil))) (mConsF (mCall [true] f_law_roll (mCons (mVar 0) (mCons (mCb dLen (mCons (mVar 5) mNil)) mNil))) mNil))))
def pN2 : So := (sPar [9, 10, 11] (mConsF (mCb dList (mCons (mVar 5) mNil)) (mConsF (mCall [true] f_law_some (mCons (mVar 0) (mCons (mLc [13] (gNm 13) (mIt (mOp dIx (mVar 1) (mC (.int 1)))) (mRet true) (mOp dIx (mVar 13) (mC (.int 0)))) mNil))) (mConsF (mCall [true] f_law_some (mCons (mVar 0) (mCons (mOp dIx (mVar 1) (mC (.int 0))) mNil))) mNil))))
def pN3 : So := (sPar2Ix 9 fSetL (mVar 7) (mVar 8) (mCons (mOp dIx (mVar 5) (mVar 8)) (mCons (mOp dIx (mVar 5) (mVar 7)) mNil)))
def pN4 : So := (sSet 12 (mLc [14] (gNm 14) (mIt (mTup (mCons (mC (.str "ring")) (mCons (mC (.str "arch")) (mCons (mC (.str "fork")) (mCons (mC (.str "comb")) (mCons (mC (.str "step")) (mCons (mC (.str "Ring")) (mCons (mC (.str "")) (mCons (mC .none) (mCons (mC (.int 0)) mNil))))))))))) (mRet true) (mTup (mCons (mVar 14) (mCons (mVar 4) (mCons (mVar 5) mNil))))))
def pN5 : So := (sSet 12 (mOp dAdd (mVar 12) (mLst (mCons (mTup (mCons (mVar 3) (mCons (mVar 4) (mCons (mCb dTup (mCons (mVar 9) mNil)) mNil)))) (mCons (mTup (mCons (mVar 3) (mCons (mRev (mVar 4)) (mCons (mVar 5) mNil)))) (mCons (mTup (mCons (mVar 3) (mCons (mVar 4) (mCons (mRev (mVar 5)) mNil)))) (mCons (mTup (mCons (mVar 3) (mCons (mVar 4) (mCons (mSl dSl (mVar 5) mNoPart (mPart (mUn dNeg (mC (.int 1))))) mNil)))) mNil)))))))
def pN6 : So := (sSet 12 (mOp dAdd (mVar 12) (mLst (mCons (mTup (mCons (mVar 3) (mCons (mOp dAdd (mOp dAdd (mSl dSl (mVar 4) mNoPart (mPart (mVar 6))) (mTup (mCons (mVar 10) mNil))) (mSl dSl (mVar 4) (mPart (mOp dAdd (mVar 6) (mC (.int 1)))) mNoPart)) (mCons (mVar 5) mNil)))) (mCons (mTup (mCons (mVar 3) (mCons (mVar 4) (mCons (mOp dAdd (mOp dAdd (mSl dSl (mVar 5) mNoPart (mPart (mVar 7))) (mTup (mCons (mVar 11) mNil))) (mSl dSl (mVar 5) (mPart (mOp dAdd (mVar 7) (mC (.int 1)))) mNoPart)) mNil)))) mNil)))))
def pN7 : So := (sSet 12 (mOp dAdd (mVar 12) (mLst (mCons (mTup (mCons (mVar 3) (mCons (mSl dSl (mVar 4) mNoPart (mPart (mUn dNeg (mC (.int 1))))) (mCons (mSl dSl (mVar 5) mNoPart (mPart (mUn dNeg (mC (.int 1))))) mNil)))) (mCons (mTup (mCons (mVar 3) (mCons (mCb dList (mCons (mVar 4) mNil)) (mCons (mVar 5) mNil)))) (mCons (mTup (mCons (mVar 3) (mCons (mVar 4) (mCons (mCb dList (mCons (mVar 5) mNil)) mNil)))) (mCons (mLst (mCons (mVar 3) (mCons (mVar 4) (mCons (mVar 5) mNil)))) (mCons (mOp dAdd (mVar 2) (mTup (mCons (mTup mNil) mNil))) mNil))))))))
def pN8 : So := (sSet 12 (mOp dAdd (mVar 12) (mLst (mCons (mTup (mCons (mVar 3) (mCons (mVar 4) (mCons (mOp dAdd (mVar 5) (mTup (mCons (mVar 11) mNil))) mNil)))) (mCons (mTup (mCons (mVar 3) (mCons (mOp dAdd (mVar 4) (mTup (mCons (mVar 10) mNil))) (mCons (mOp dAdd (mVar 5) (mTup (mCons (mVar 11) mNil))) mNil)))) (mCons (mC .none) (mCons (mTup mNil) (mCons (mSl dSl (mVar 2) mNoPart (mPart (mC (.int 2)))) (mCons (mTup (mCons (mVar 3) (mCons (mVar 4) (mCons (mC .none) mNil)))) mNil)))))))))
def pN9 (zz : D) : So := (sRet (mOp dAdd (mVar 12) (mLst (mCons (mTup (mCons (mVar 3) (mCons (mOp dAdd (mOp dAdd (mSl dSl (mVar 4) mNoPart (mPart (mVar 6))) (mTup (mCons (mC .none) mNil))) (mSl dSl (mVar 4) (mPart (mOp dAdd (mVar 6) (mC (.int 1)))) mNoPart)) (mCons (mVar 5) mNil)))) (mCons (mTup (mCons (mVar 3) (mCons (mVar 4) (mCons (mOp dAdd (mOp dAdd (mSl dSl (mVar 5) mNoPart (mPart (mVar 7))) (mTup (mCons (mC zz) mNil))) (mSl dSl (mVar 5) (mPart (mOp dAdd (mVar 7) (mC (.int 1)))) mNoPart)) mNil)))) (mCons (mTup (mCons (mVar 3) (mCons (mTup mNil) (mCons (mTup mNil) mNil)))) mNil))))))
theorem pN_eq : m_law_near = sSeq pN0 (sSeq pN1 (sSeq pN2 (sSeq pN3 (sSeq pN4 (sSeq pN5 (sSeq pN6 (sSeq pN7 (sSeq pN8 (sSeq (pN9 (.str "zz")) sSkip))))))))) := rfl

section
variable {e : En} {i j k n : Nat} {d1 d2 : D} {m m1 m2 x1 x2 : Mo Vx} {ms : Mo (List Vx)} {L ds : List D} {Q : Ed} {rest : So}
theorem set_spec {a : Nat} {d : D} (he : e[j]? = some (.ow (.list L))) (h1 : EvD m e (.int (a : Nat))) (ha : a < L.length) (q : Q.nx (e.set j (.ow (.list (L.set a d))))) : wS (setIxV j fSetL m d) e Q := by
  unfold setIxV
  rw [w_sOf, w_var, he, wVar_ow, w_sOf]
  refine h1.mono ?_
  rintro x e1 ⟨rfl, _, q2⟩
  rw [w_sOf]
  refine q2 _ ?_
  rw [w_sOf, w_muts, he, wMu_ow', fSetL_l, ixN_nat ha]
  show wS sSkip _ _
  rw [w_skip]
  exact q
theorem ws_par2 {a b : Nat} (hx1 : EvV x1 e d1) (hx2 : EvV x2 e d2) (he : e[j]? = some (.ow (.list L))) (h1 : EvD m1 e (.int (a : Nat))) (ha : a < L.length) (h2 : EvD m2 (e.set j (.ow (.list (L.set a d1)))) (.int (b : Nat))) (hb : b < L.length)
    (q : Q.nx ((e.set j (.ow (.list (L.set a d1)))).set j (.ow (.list ((L.set a d1).set b d2))))) : wS (sPar2Ix j fSetL m1 m2 (mCons x1 (mCons x2 mNil))) e Q := by
  unfold sPar2Ix
  rw [w_sOf, w_cons]
  refine hx1.mono ?_
  rintro y1 e1 ⟨rfl, rfl⟩
  rw [w_cons]
  refine hx2.mono ?_
  rintro y2 e2 ⟨rfl, rfl⟩
  rw [w_nil]
  show wS (sSeq (setIxV j fSetL m1 d1) (setIxV j fSetL m2 d2)) _ _
  rw [w_seq]
  refine set_spec he h1 ha ?_
  refine set_spec ?_ h2 (by rw [List.length_set]; exact hb) q
  have hj : j < e2.length := (List.getElem?_eq_some_iff.mp he).1
  rw [List.getElem?_set_self hj]
theorem st_tow (h : e[i]? = some (.ow (.list ds))) (h2 : PL n k ds) : SmT n k (mCb dTup (mCons (mVar i) mNil)) e := by
  refine ⟨ds, EvV.toD ?_, h2⟩
  unfold EvV
  rw [w_cb, w_cons]
  refine (ev_ow h).mono ?_
  rintro x e1 ⟨rfl, q⟩
  rw [w_nil, ds_cons, q, ds_nil]
  exact ⟨rfl, rfl⟩
theorem sl_ne (h : SmL n k (mCons m ms) e) : ∃ ds, EvL (mCons m ms) e ds ∧ PL n k ds ∧ ds ≠ [] := by
  obtain ⟨ds, h1, h2⟩ := h
  refine ⟨ds, h1, h2, ?_⟩
  rintro rfl
  unfold EvL at h1
  rw [w_cons] at h1
  obtain ⟨x, e1, _, h3⟩ := h1.get
  obtain ⟨xs, e2, _, rfl, h4, _⟩ := h3.get
  rw [ds_cons] at h4
  cases hx : x.d e2 with
  | none => rw [hx] at h4; cases h4
  | some d =>
    rw [hx] at h4
    cases hy : Vx.ds e2 xs with
    | none => rw [hy] at h4; cases h4
    | some l => rw [hy] at h4; cases h4
theorem sq_more (ho : e[i]? = some (.ow (.list ds))) (hd : PL n j ds) (h : SmL n k ms e) (hk : j + k ≤ 1000) (q : ∀ ds, PL n (j + k) ds → ∃ e1, setSl i (.ow (.list ds)) e = some e1 ∧ wS rest e1 Q) : wS (sSeq (sSet i (mOp dAdd (mVar i) (mLst ms))) rest) e Q := by
  rw [w_seq]
  exact ws_more ho hd h hk q
theorem sq_retMore (ho : e[i]? = some (.ow (.list ds))) (hd : PL n j ds) (h : SmL n k (mCons m ms) e) (hk : j + k ≤ 1000) (q : ∀ ds, PL n (j + k) ds → ds ≠ [] → Q.rt (.nw (.list ds)) e) : wS (sSeq (sRet (mOp dAdd (mVar i) (mLst (mCons m ms)))) rest) e Q := by
  obtain ⟨xs, q1, q2, q3⟩ := sl_ne h
  exact sq_retN (ev_addL (ev_ow ho) (ev_lst q1 (by have := q2.1; omega)).toD.rd (by have := q2.1; have := hd.1; omega)) (q _ (hd.app q2) (by simp [q3]))
end
def rN (tab core : D) (w : Str) (K N : List Str) (s6 s7 s8 s9 s10 s11 s12 : Sl) : En := [.fz tab, .fz core, .fz (.str w), .fz (.tuple (K.map .str)), .fz (.tuple (N.map .str)), s6, s7, s8, s9, s10, s11, s12, .un, .un]
def iS (a : Nat) : Sl := .fz (.int (a : Nat))
section
variable {tab core c k nm zz : D} {w : Str} {K N : List Str} {a b o : Nat} {sw found : List D} {Q : Ed} {rest : So}
theorem pN5_spec (hw : sm 0 (.str w) = true) (hk : sm 0 k = true) (hm : sm 0 nm = true) (h1 : PL 0 21 (K.map PyData.str)) (h2 : PL 0 21 (N.map PyData.str)) (h3 : PL 1 3 [PyData.str w, .tuple (K.map .str), .tuple (N.map .str)]) (h4 : PL 0 21 sw) (hf : PL 2 9 found) (h : ∀ found, PL 2 13 found → wS rest (.bo c :: rN tab (coreV w K N) w K N (iS a) (iS b) (iS o) (.ow (.list sw)) (.fz k) (.fz nm) (.ow (.list found))) Q) : wS (sSeq pN5 rest) (.bo c :: rN tab (coreV w K N) w K N (iS a) (iS b) (iS o) (.ow (.list sw)) (.fz k) (.fz nm) (.ow (.list found))) Q := by
  refine sq_more (n := 2) (j := 9) (k := 4) rfl hf ?x1 (by omega) fun fd ho => ⟨_, rfl, h fd ho⟩
  case x1 =>
    repeat first
      | exact sl_nil
      | apply sl_cons
      | exact sd_c (by first | exact sm_n | exact sm_b | exact sm_i | exact sm_up hz (by omega))
      | exact sd_var rfl (sm_up hw (by omega))
      | exact sd_var rfl (sm_up hk (by omega))
      | exact sd_var rfl (sm_up hm (by omega))
      | exact st_var rfl (PL.up h1 (by omega))
      | exact st_var rfl (PL.up h2 (by omega))
      | exact st_var rfl (PL.up h3 (by omega))
      | exact st_tow rfl (PL.up h4 (by omega))
      | exact ep_none
      | exact ep_some ev_c.toD
      | exact ep_some (ev_var rfl).toD
      | exact ep_some (ev_unV ev_c.toD dNeg_i).toD
      | exact ep_some (ev_add (ev_var rfl).toD ev_c.toD)
      | apply st_cut
      | apply st_tup
      | apply st_add
      | apply st_rev
      | apply sd_list
      | apply sd_lst
      | apply SmT.toD
      | omega
theorem pN6_spec (hw : sm 0 (.str w) = true) (hk : sm 0 k = true) (hm : sm 0 nm = true) (h1 : PL 0 21 (K.map PyData.str)) (h2 : PL 0 21 (N.map PyData.str)) (h3 : PL 1 3 [PyData.str w, .tuple (K.map .str), .tuple (N.map .str)]) (h4 : PL 0 21 sw) (hf : PL 2 13 found) (h : ∀ found, PL 2 15 found → wS rest (.bo c :: rN tab (coreV w K N) w K N (iS a) (iS b) (iS o) (.ow (.list sw)) (.fz k) (.fz nm) (.ow (.list found))) Q) : wS (sSeq pN6 rest) (.bo c :: rN tab (coreV w K N) w K N (iS a) (iS b) (iS o) (.ow (.list sw)) (.fz k) (.fz nm) (.ow (.list found))) Q := by
  refine sq_more (n := 2) (j := 13) (k := 2) rfl hf ?x1 (by omega) fun fd ho => ⟨_, rfl, h fd ho⟩
  case x1 =>
    repeat first
      | exact sl_nil
      | apply sl_cons
      | exact sd_c (by first | exact sm_n | exact sm_b | exact sm_i | exact sm_up hz (by omega))
      | exact sd_var rfl (sm_up hw (by omega))
      | exact sd_var rfl (sm_up hk (by omega))
      | exact sd_var rfl (sm_up hm (by omega))
      | exact st_var rfl (PL.up h1 (by omega))
      | exact st_var rfl (PL.up h2 (by omega))
      | exact st_var rfl (PL.up h3 (by omega))
      | exact st_tow rfl (PL.up h4 (by omega))
      | exact ep_none
      | exact ep_some ev_c.toD
      | exact ep_some (ev_var rfl).toD
      | exact ep_some (ev_unV ev_c.toD dNeg_i).toD
      | exact ep_some (ev_add (ev_var rfl).toD ev_c.toD)
      | apply st_cut
      | apply st_tup
      | apply st_add
      | apply st_rev
      | apply sd_list
      | apply sd_lst
      | apply SmT.toD
      | omega
theorem pN7_spec (hw : sm 0 (.str w) = true) (hk : sm 0 k = true) (hm : sm 0 nm = true) (h1 : PL 0 21 (K.map PyData.str)) (h2 : PL 0 21 (N.map PyData.str)) (h3 : PL 1 3 [PyData.str w, .tuple (K.map .str), .tuple (N.map .str)]) (h4 : PL 0 21 sw) (hf : PL 2 15 found) (h : ∀ found, PL 2 20 found → wS rest (.bo c :: rN tab (coreV w K N) w K N (iS a) (iS b) (iS o) (.ow (.list sw)) (.fz k) (.fz nm) (.ow (.list found))) Q) : wS (sSeq pN7 rest) (.bo c :: rN tab (coreV w K N) w K N (iS a) (iS b) (iS o) (.ow (.list sw)) (.fz k) (.fz nm) (.ow (.list found))) Q := by
  refine sq_more (n := 2) (j := 15) (k := 5) rfl hf ?x1 (by omega) fun fd ho => ⟨_, rfl, h fd ho⟩
  case x1 =>
    repeat first
      | exact sl_nil
      | apply sl_cons
      | exact sd_c (by first | exact sm_n | exact sm_b | exact sm_i | exact sm_up hz (by omega))
      | exact sd_var rfl (sm_up hw (by omega))
      | exact sd_var rfl (sm_up hk (by omega))
      | exact sd_var rfl (sm_up hm (by omega))
      | exact st_var rfl (PL.up h1 (by omega))
      | exact st_var rfl (PL.up h2 (by omega))
      | exact st_var rfl (PL.up h3 (by omega))
      | exact st_tow rfl (PL.up h4 (by omega))
      | exact ep_none
      | exact ep_some ev_c.toD
      | exact ep_some (ev_var rfl).toD
      | exact ep_some (ev_unV ev_c.toD dNeg_i).toD
      | exact ep_some (ev_add (ev_var rfl).toD ev_c.toD)
      | apply st_cut
      | apply st_tup
      | apply st_add
      | apply st_rev
      | apply sd_list
      | apply sd_lst
      | apply SmT.toD
      | omega
theorem pN8_spec (hw : sm 0 (.str w) = true) (hk : sm 0 k = true) (hm : sm 0 nm = true) (h1 : PL 0 21 (K.map PyData.str)) (h2 : PL 0 21 (N.map PyData.str)) (h3 : PL 1 3 [PyData.str w, .tuple (K.map .str), .tuple (N.map .str)]) (h4 : PL 0 21 sw) (hf : PL 2 20 found) (h : ∀ found, PL 2 26 found → wS rest (.bo c :: rN tab (coreV w K N) w K N (iS a) (iS b) (iS o) (.ow (.list sw)) (.fz k) (.fz nm) (.ow (.list found))) Q) : wS (sSeq pN8 rest) (.bo c :: rN tab (coreV w K N) w K N (iS a) (iS b) (iS o) (.ow (.list sw)) (.fz k) (.fz nm) (.ow (.list found))) Q := by
  refine sq_more (n := 2) (j := 20) (k := 6) rfl hf ?x1 (by omega) fun fd ho => ⟨_, rfl, h fd ho⟩
  case x1 =>
    repeat first
      | exact sl_nil
      | apply sl_cons
      | exact sd_c (by first | exact sm_n | exact sm_b | exact sm_i | exact sm_up hz (by omega))
      | exact sd_var rfl (sm_up hw (by omega))
      | exact sd_var rfl (sm_up hk (by omega))
      | exact sd_var rfl (sm_up hm (by omega))
      | exact st_var rfl (PL.up h1 (by omega))
      | exact st_var rfl (PL.up h2 (by omega))
      | exact st_var rfl (PL.up h3 (by omega))
      | exact st_tow rfl (PL.up h4 (by omega))
      | exact ep_none
      | exact ep_some ev_c.toD
      | exact ep_some (ev_var rfl).toD
      | exact ep_some (ev_unV ev_c.toD dNeg_i).toD
      | exact ep_some (ev_add (ev_var rfl).toD ev_c.toD)
      | apply st_cut
      | apply st_tup
      | apply st_add
      | apply st_rev
      | apply sd_list
      | apply sd_lst
      | apply SmT.toD
      | omega
theorem pN9_spec (hz : sm 0 zz = true) (hw : sm 0 (.str w) = true) (hk : sm 0 k = true) (hm : sm 0 nm = true) (h1 : PL 0 21 (K.map PyData.str)) (h2 : PL 0 21 (N.map PyData.str)) (h3 : PL 1 3 [PyData.str w, .tuple (K.map .str), .tuple (N.map .str)]) (h4 : PL 0 21 sw) (hf : PL 2 26 found) (h : ∀ ds, PL 2 29 ds → ds ≠ [] → Q.rt (.nw (.list ds)) (.bo c :: rN tab (coreV w K N) w K N (iS a) (iS b) (iS o) (.ow (.list sw)) (.fz k) (.fz nm) (.ow (.list found)))) : wS (sSeq (pN9 zz) rest) (.bo c :: rN tab (coreV w K N) w K N (iS a) (iS b) (iS o) (.ow (.list sw)) (.fz k) (.fz nm) (.ow (.list found))) Q := by
  refine sq_retMore (n := 2) (j := 26) (k := 3) rfl hf ?x1 (by omega) h
  case x1 =>
    repeat first
      | exact sl_nil
      | apply sl_cons
      | exact sd_c (by first | exact sm_n | exact sm_b | exact sm_i | exact sm_up hz (by omega))
      | exact sd_var rfl (sm_up hw (by omega))
      | exact sd_var rfl (sm_up hk (by omega))
      | exact sd_var rfl (sm_up hm (by omega))
      | exact st_var rfl (PL.up h1 (by omega))
      | exact st_var rfl (PL.up h2 (by omega))
      | exact st_var rfl (PL.up h3 (by omega))
      | exact st_tow rfl (PL.up h4 (by omega))
      | exact ep_none
      | exact ep_some ev_c.toD
      | exact ep_some (ev_var rfl).toD
      | exact ep_some (ev_unV ev_c.toD dNeg_i).toD
      | exact ep_some (ev_add (ev_var rfl).toD ev_c.toD)
      | apply st_cut
      | apply st_tup
      | apply st_add
      | apply st_rev
      | apply sd_list
      | apply sd_lst
      | apply SmT.toD
      | omega
end
end L_k31
set_option Elab.async false
set_option linter.all false
set_option maxRecDepth 100000
set_option maxHeartbeats 1000000
namespace L_k31
open PySem PySem.Spec PyProof.Rows L2 Fw
def nine : List D := [.str "ring", .str "arch", .str "fork", .str "comb", .str "step", .str "Ring", .str "", .none, .int 0]
theorem nine_sm : (nine.all (sm 0)) = true := by decide +kernel
theorem strs_pl {zs : List Str} {k : Nat} (hl : zs.length ≤ k) (h : ∀ z, z ∈ zs → smS z = true) : PL 0 k (zs.map .str) := ⟨by rw [List.length_map]; exact hl, fun d hd => by
  obtain ⟨z, hz, rfl⟩ := List.mem_map.mp hd
  rw [sm_s]
  exact h z hz⟩
theorem w5_smw {w : Str} (h : w ∈ W5) : sm 0 (.str w) = true := by
  rw [sm_s]
  exact w5_sm w h
theorem core_pl {w : Str} {K N : List Str} (hw : w ∈ W5) (h1 : PL 0 21 (K.map PyData.str)) (h2 : PL 0 21 (N.map PyData.str)) : PL 1 3 [PyData.str w, .tuple (K.map .str), .tuple (N.map .str)] :=
  PL.cons (sm_up (w5_smw hw) (by omega)) (PL.cons (h1.t (by omega)) (PL.cons (h2.t (by omega)) PL.nil))
theorem sq_rollP {mas : Mo (List Vx)} {r : En} {L : List D} {P : List Vx → Prop} {i : Nat} {ms : Mo (List Vx)} (hL : r[i]? = some (.fz (.tuple L))) (h0 : 0 < L.length) (hl : L.length ≤ 1000) (h : ∀ a : Nat, a < L.length → ECL ms r fun xs => P (.v (.int (a : Nat)) :: xs)) : ECL (mConsF (mCall [true] f_law_roll (mCons (mVar 0) (mCons (mCb dLen (mCons (mVar (i + 1)) mNil)) mNil))) ms) r P := by
  refine ecl_consF (EC.mono (ec_call (ecl_cons (ec_v (d := .int (L.length : Nat)) (fun c => ev_cbV (evs_cons (ev_var (i := i + 1) (e := .bo c :: r) hL).toD evs_nil) dLen_t) (ecl_nil ⟨_, .cons vst_v .nil, roll_drw roll_ok (by omega) (by omega)⟩)))) ?_)
  rintro x ⟨z, rfl, g0, g1⟩
  obtain ⟨a, rfl⟩ : ∃ a : Nat, z = a := ⟨z.toNat, by omega⟩
  exact ⟨rfl, h a (by omega)⟩
def fstD : D → D
  | .tuple (d :: _) => d
  | d => d
theorem law_near_spec {c : D} {cs : List Str} {rows : List Row} {w : Str} {K N : List Str} (hc : CupOk c) (T : TabG cs rows) (hC : coreS cs rows w K N = true) : wF f_law_near [.bo c, .fz (tabD cs rows), .fz (coreV w K N)] fun x o => ∃ (ds : List D) (c' : D), x = .nw (.list ds) ∧ ds ≠ [] ∧ PL 2 29 ds ∧ CupOk c' ∧ o = [.bo c', .un, .un] := by
  refine w_def rfl ?_
  rw [pN_eq]
  have C := core_get hC
  obtain ⟨hw5, hlo, hhi, hn⟩ := okW_get C.ok
  obtain ⟨d1, d2, d3, d4⟩ := due_ok C.ok
  have hNl : N.length ≤ 21 := by rw [C.len]; exact d3
  have hN0 : 0 < N.length := by
    obtain ⟨r, hr⟩ : ∃ r, (due w K.length)[0]? = some r := ⟨_, List.getElem?_eq_getElem (by omega)⟩
    have hr2 := List.mem_of_getElem? hr
    obtain ⟨j, hj⟩ := List.exists_mem_of_ne_nil r (due_ne C.ok hr2)
    have := (d2 r hr2).2.1 j hj
    rw [C.len]
    omega
  have hKs : ∀ z, z ∈ K → smS z = true := fun z hz => by
    obtain ⟨q, hq, rfl⟩ := List.mem_map.mp (C.kin z hz)
    exact (T.kok q hq).2
  have hNs : ∀ z, z ∈ N → smS z = true := fun z hz => (T.cok z (C.nin z hz)).2
  have h1 : PL 0 21 (K.map PyData.str) := strs_pl (by omega) hKs
  have h2 : PL 0 21 (N.map PyData.str) := strs_pl hNl hNs
  have h3 := core_pl hw5 h1 h2
  have hcs0 : cs.map PyData.str ≠ [] := by
    intro h
    have := C.nin N[0] (List.getElem_mem hN0)
    rw [List.map_eq_nil_iff.mp h] at this
    cases this
  have hrs0 : rows ≠ [] := by
    intro h
    have := C.kin K[0] (List.getElem_mem (by omega))
    rw [h] at this
    cases this
  have hQ : ∀ (c' : D) (ds : List D) (e : En), CupOk c' → ds ≠ [] → PL 2 29 ds → (edF [.bo c, .fz (tabD cs rows), .fz (coreV w K N)] fun x o => ∃ (ds : List D) (c' : D), x = .nw (.list ds) ∧ ds ≠ [] ∧ PL 2 29 ds ∧ CupOk c' ∧ o = [.bo c', .un, .un]).rt (.nw (.list ds)) (.bo c' :: .fz (tabD cs rows) :: .fz (coreV w K N) :: e) := fun c' ds e g1 g2 g3 => ⟨ds, c', rfl, g2, g3, g1, by simp⟩
  generalize edF [.bo c, .fz (tabD cs rows), .fz (coreV w K N)] (fun x o => ∃ (ds : List D) (c' : D), x = .nw (.list ds) ∧ ds ≠ [] ∧ PL 2 29 ds ∧ CupOk c' ∧ o = [.bo c', .un, .un]) = Q at hQ ⊢
  show wS _ (.bo c :: [.fz (tabD cs rows), .fz (coreV w K N), .un, .un, .un, .un, .un, .un, .un, .un, .un, .un, .un, .un]) Q
  refine sq_get (e1 := .bo c :: rN (tabD cs rows) (coreV w K N) w K N .un .un .un .un .un .un .un) (ev_var (d := coreV w K N) rfl).toD rfl ?_
  refine sq_parC hc (sq_rollP (mas := mNil) (L := K.map .str) rfl (by rw [List.length_map]; omega) (by rw [List.length_map]; omega) fun a ha => sq_rollP (mas := mNil) (L := N.map .str) rfl (by rw [List.length_map]; omega) (by rw [List.length_map]; omega) fun b hb => sq_rollP (mas := mNil) (L := N.map .str) rfl (by rw [List.length_map]; omega) (by rw [List.length_map]; omega) fun o ho => ecl_nil ⟨rN (tabD cs rows) (coreV w K N) w K N (iS a) (iS b) (iS o) .un .un .un .un, fun _ => rfl, fun c hc => ?_⟩)
  rw [List.length_map] at ha hb ho
  have hks : ∀ c : D, EvN (mLc [13] (gNm 13) (mIt (mOp dIx (mVar 1) (mC (.int 1)))) (mRet true) (mOp dIx (mVar 13) (mC (.int 0)))) (.bo c :: rN (tabD cs rows) (coreV w K N) w K N (iS a) (iS b) (iS o) .un .un .un .un) (.list ((rows.map rowR).map fstD)) := fun c => by
    refine lc_mp ?_
    rw [w_it]
    refine (ev_opV (a := tabD cs rows) (b := .int 1) (z := .tuple (rows.map rowR)) (ev_var rfl).toD ev_c.toD rfl).mono ?_
    rintro x e1 ⟨rfl, rfl⟩
    rw [w_val_v, itD_t, wIt_some]
    refine ⟨rfl, by rw [List.length_map]; have := T.klen; omega, fstD, fun d hd => ⟨_, rfl, ?_⟩, rfl, rfl⟩
    obtain ⟨q, hq, rfl⟩ := List.mem_map.mp hd
    rw [w_ret]
    refine ⟨rfl, ?_⟩
    refine (ev_opV (a := rowR q) (b := .int 0) (z := .str q.1) (ev_var rfl).toD ev_c.toD rfl).mono ?_
    rintro x e4 ⟨rfl, rfl⟩
    rw [w_val_v]
    exact ⟨rfl, rfl⟩
  refine sq_parC hc (ecl_consF (ec_n (d := .list (N.map .str)) (fun c => ev_cbN (evs_cons (ev_var rfl).toD evs_nil) dList_t) ⟨rfl, ecl_consF (EC.mono (ec_call (ecl_cons (ec_n hks (ecl_nil ⟨_, .cons vst_nw .nil, some_drw some_ok (.inl rfl) (by simpa using hrs0) (by simp; have := T.klen; omega)⟩)))) ?_)⟩))
  rintro x ⟨k, rfl, hk⟩
  refine ⟨rfl, ecl_consF (EC.mono (ec_call (ecl_cons (ec_v (d := .tuple (cs.map .str)) (fun c => ev_opV (a := tabD cs rows) (b := .int 0) (ev_var rfl).toD ev_c.toD rfl) (ecl_nil ⟨_, .cons vst_v .nil, some_drw some_ok (.inr rfl) hcs0 (by simp; have := T.clen; omega)⟩)))) ?_)⟩
  rintro x ⟨nm, rfl, hnm⟩
  have hk0 : sm 0 k = true := by
    obtain ⟨d, hd, rfl⟩ := List.mem_map.mp hk
    obtain ⟨q, hq, rfl⟩ := List.mem_map.mp hd
    show sm 0 (.str q.1) = true
    rw [sm_s]
    exact (T.kok q hq).2
  have hm0 : sm 0 nm = true := by
    obtain ⟨q, hq, rfl⟩ := List.mem_map.mp hnm
    rw [sm_s]
    exact (T.cok q hq).2
  refine ⟨rfl, ecl_nil ⟨rN (tabD cs rows) (coreV w K N) w K N (iS a) (iS b) (iS o) (.ow (.list (N.map .str))) (.fz k) (.fz nm) .un, fun _ => rfl, fun c hc => ?_⟩⟩
  have hix : ∀ (i : Nat) (j : Nat) (e : En), e[5]? = some (.fz (.tuple (N.map .str))) → e[i]? = some (iS j) → j < N.length → EvV (mOp dIx (mVar 5) (mVar i)) e (.str (nA N j)) := fun i j e g1 g2 g3 => tx_ix (tx_var g1) (ev_var g2).toD rfl g3
  rw [w_seq]
  refine ws_par2 (L := N.map .str) (d1 := .str (nA N o)) (d2 := .str (nA N b)) (a := b) (b := o) (hix _ o _ rfl rfl ho) (hix _ b _ rfl rfl hb) rfl (ev_var rfl).toD (by rw [List.length_map]; exact hb) (ev_var rfl).toD (by rw [List.length_map]; exact ho) ?_
  have h4 : PL 0 21 (((N.map PyData.str).set b (.str (nA N o))).set o (.str (nA N b))) := by
    refine ⟨by simp; omega, fun d hd => ?_⟩
    have e1 := nA_get ho
    have e2 := nA_get hb
    rcases List.mem_or_eq_of_mem_set hd with hd | rfl
    · rcases List.mem_or_eq_of_mem_set hd with hd | rfl
      · exact h2.2 d hd
      · rw [e1, sm_s]
        exact hNs _ (List.getElem_mem _)
    · rw [e2, sm_s]
      exact hNs _ (List.getElem_mem _)
  generalize ((N.map PyData.str).set b (.str (nA N o))).set o (.str (nA N b)) = sw at h4
  show wS _ (.bo c :: rN (tabD cs rows) (coreV w K N) w K N (iS a) (iS b) (iS o) (.ow (.list sw)) (.fz k) (.fz nm) .un) Q
  have g4 : EvN (mLc [14] (gNm 14) (mIt (mTup (mCons (mC (.str "ring")) (mCons (mC (.str "arch")) (mCons (mC (.str "fork")) (mCons (mC (.str "comb")) (mCons (mC (.str "step")) (mCons (mC (.str "Ring")) (mCons (mC (.str "")) (mCons (mC .none) (mCons (mC (.int 0)) mNil))))))))))) (mRet true) (mTup (mCons (mVar 14) (mCons (mVar 4) (mCons (mVar 5) mNil))))) (.bo c :: rN (tabD cs rows) (coreV w K N) w K N (iS a) (iS b) (iS o) (.ow (.list sw)) (.fz k) (.fz nm) .un) (.list (nine.map fun d => .tuple [d, .tuple (K.map .str), .tuple (N.map .str)])) := by
    refine lc_mp ?_
    rw [w_it]
    refine (ev_tup (ds := nine) (evs_cons ev_c.toD (evs_cons ev_c.toD (evs_cons ev_c.toD (evs_cons ev_c.toD (evs_cons ev_c.toD (evs_cons ev_c.toD (evs_cons ev_c.toD (evs_cons ev_c.toD (evs_cons ev_c.toD evs_nil))))))))) (by decide)).mono ?_
    rintro x e1 ⟨rfl, rfl⟩
    rw [w_val_v, itD_t, wIt_some]
    refine ⟨rfl, by decide, _, fun d hd => ⟨_, rfl, ?_⟩, rfl, rfl⟩
    rw [w_ret]
    refine ⟨rfl, ?_⟩
    refine (ev_tup (evs_cons (ev_var (d := d) rfl).toD (evs_cons (ev_var (d := .tuple (K.map .str)) rfl).toD (evs_cons (ev_var (d := .tuple (N.map .str)) rfl).toD evs_nil))) (by simp)).mono ?_
    rintro x e4 ⟨rfl, rfl⟩
    rw [w_val_v]
    exact ⟨rfl, rfl⟩
  refine sq_setN (e1 := .bo c :: rN (tabD cs rows) (coreV w K N) w K N (iS a) (iS b) (iS o) (.ow (.list sw)) (.fz k) (.fz nm) (.ow (.list (nine.map fun d => .tuple [d, .tuple (K.map .str), .tuple (N.map .str)])))) g4 rfl ?_
  have hf : PL 2 9 (nine.map fun d => PyData.tuple [d, .tuple (K.map .str), .tuple (N.map .str)]) := by
    refine ⟨by rw [List.length_map]; exact Nat.le_refl _, fun x hx => ?_⟩
    obtain ⟨d, hd, rfl⟩ := List.mem_map.mp hx
    have := List.all_eq_true.mp nine_sm d hd
    exact PL.t (k := 3) (PL.cons (sm_up this (by omega)) (PL.cons (h1.t (by omega)) (PL.cons (h2.t (by omega)) PL.nil))) (by omega)
  have hw := w5_smw hw5
  refine pN5_spec hw hk0 hm0 h1 h2 h3 h4 hf fun fd hf => pN6_spec hw hk0 hm0 h1 h2 h3 h4 hf fun fd hf => pN7_spec hw hk0 hm0 h1 h2 h3 h4 hf fun fd hf => pN8_spec hw hk0 hm0 h1 h2 h3 h4 hf fun fd hf => pN9_spec (by decide +kernel) hw hk0 hm0 h1 h2 h3 h4 hf fun ds hd hd0 => ?_
  exact hQ c ds _ hc hd0 hd
end L_k31
set_option Elab.async false
set_option linter.all false
set_option maxRecDepth 100000
set_option maxHeartbeats 1000000
namespace L_k31
open PySem PySem.Spec PyProof.Rows L2 Fw
/-! one context more or less -/
def flp (k nm : Str) (q : Row) : Row := if q.1 = k then (if nm ∈ q.2 then (q.1, q.2.filter fun z => decide (z ≠ nm)) else (q.1, (q.2 ++ [nm]).mergeSort strLe)) else q
theorem flp_key {k nm : Str} {q : Row} : (flp k nm q).1 = q.1 := by
  unfold flp
  split
  · split <;> rfl
  · rfl
theorem flp_keys {k nm : Str} {rows : List Row} : (rows.map (flp k nm)).map (·.1) = rows.map (·.1) := by
  rw [List.map_map]
  exact List.map_congr_left fun q _ => flp_key
theorem flp_mem {k nm : Str} {q : Row} (h : q.1 = k) : nm ∈ (flp k nm q).2 ↔ nm ∉ q.2 := by
  unfold flp
  rw [if_pos h]
  by_cases hm : nm ∈ q.2
  · rw [if_pos hm]
    simp [hm]
  · rw [if_neg hm]
    dsimp only
    rw [(List.mergeSort_perm _ _).mem_iff]
    simp [hm]
section
variable {cs : List Str} {rows : List Row} {w k nm : Str} {K N : List Str}
theorem flp_tab (T : TabG cs rows) (hnm : nm ∈ cs) (h0 : ∀ q, q ∈ rows.map (flp k nm) → q.2 ≠ []) : TabG cs (rows.map (flp k nm)) := by
  refine ⟨T.cup, T.clen, T.cok, by rw [flp_keys]; exact T.kup, by rw [List.length_map]; exact T.klen, ?_, ?_, h0, ?_⟩
  · intro q hq
    obtain ⟨p, hp, rfl⟩ := List.mem_map.mp hq
    rw [flp_key]
    exact T.kok p hp
  · intro q hq
    obtain ⟨p, hp, rfl⟩ := List.mem_map.mp hq
    have hu := T.rup p hp
    unfold flp
    split
    · split
      · exact hu.sublist List.filter_sublist
      · rename_i hm
        have hn : (p.2 ++ [nm]).Nodup := by
          rw [List.nodup_append]
          refine ⟨pw_nd hu, by simp, ?_⟩
          intro a ha b hb
          rw [List.mem_singleton.mp hb]
          rintro rfl
          exact hm ha
        have hp2 := List.pairwise_mergeSort (le := strLe) strLe_trans strLe_total (p.2 ++ [nm])
        have hn2 : ((p.2 ++ [nm]).mergeSort strLe).Nodup := (List.mergeSort_perm _ strLe).nodup_iff.mpr hn
        exact (hp2.and hn2).imp fun h => strLt_le.mpr h
    · exact hu
  · intro q hq z hz
    obtain ⟨p, hp, rfl⟩ := List.mem_map.mp hq
    have hi := T.rin p hp
    unfold flp at hz
    split at hz
    · split at hz
      · exact hi z (List.mem_filter.mp hz).1
      · rw [(List.mergeSort_perm _ _).mem_iff] at hz
        rcases List.mem_append.mp hz with hz | hz
        · exact hi z hz
        · rw [List.mem_singleton.mp hz]
          exact hnm
    · exact hi z hz
theorem flp_core (T : TabG cs rows) (hC : coreS cs rows w K N = true) (hk : k ∈ K) (hnm : nm ∈ N) : coreS cs (rows.map (flp k nm)) w K N = false := by
  cases hq : coreS cs (rows.map (flp k nm)) w K N with
  | false => rfl
  | true =>
    have C := core_get hC
    have C2 := core_get hq
    obtain ⟨i, hi, rfl⟩ := List.mem_iff_getElem.mp hk
    obtain ⟨j, hj, rfl⟩ := List.mem_iff_getElem.mp hnm
    obtain ⟨d1, d2, d3, d4⟩ := due_ok C.ok
    have hr : (due w K.length)[i]? = some (due w K.length)[i] := List.getElem?_eq_getElem (by omega)
    have e1 := C.at_ i hi _ hr j hj
    have e2 := C2.at_ i hi _ hr j hj
    obtain ⟨q, hq, hq1, hrow⟩ := row_mem (C.kin K[i] (List.getElem_mem hi))
    have hnd : ((rows.map (flp K[i] N[j])).map (·.1)).Nodup := by rw [flp_keys]; exact pw_nd T.kup
    have hrow2 : row (rows.map (flp K[i] N[j])) K[i] = (flp K[i] N[j] q).2 := by
      have := row_of hnd (List.mem_map.mpr ⟨q, hq, rfl⟩)
      rw [flp_key, hq1] at this
      exact this
    rw [hrow] at e1
    rw [hrow2, flp_mem hq1, e1] at e2
    exact absurd e2 (by by_cases h : j ∈ (due w K.length)[i] <;> simp [h])
theorem coreD_core : coreD cs rows (coreV w K N) = coreS cs rows w K N := by
  show ((K.map PyData.str).all isSt && (N.map PyData.str).all isSt && coreS cs rows w (txts (K.map .str)) (txts (N.map .str))) = _
  rw [all_isSt, all_isSt, txts_map, txts_map]
  rfl
end
/-! draws -/
theorem planted_drw {w : Str} {n : Nat} (hok : okW w n = true) : Drw f_law_planted [.str w, .int n] fun x => ∃ (cs : List Str) (rows : List Row) (K N : List Str), x = .v (.tuple [tabD cs rows, coreV w K N]) ∧ TabG cs rows ∧ coreS cs rows w K N = true ∧ K.length = n := fun c hc => (law_planted_spec hok hc).mono fun x o ⟨cs, rows, K, N, c', h1, h2, h3, h4, h5, h6⟩ => ⟨c', h5, h6, by rw [h1]; rfl, cs, rows, K, N, h1, h2, h3, h4⟩
theorem turned_drw {cs : List Str} {rows : List Row} {w : Str} {K N : List Str} (hC : coreS cs rows w K N = true) : Drw f_law_turned [coreV w K N] fun x => ∃ K' N' : List Str, x = .v (coreV w K' N') ∧ coreS cs rows w K' N' = true := fun c hc => (turned_spec hc (core_get hC).ok (core_get hC).len).mono fun x o ⟨d, c', h1, ⟨a, b, h2, h3, h4⟩, h5, h6⟩ => ⟨c', h5, h6, by rw [h1]; rfl, _, _, by rw [h1, h4], turn_core hC h2 h3⟩
theorem near_drw {cs : List Str} {rows : List Row} {w : Str} {K N : List Str} (T : TabG cs rows) (hC : coreS cs rows w K N = true) : Drw f_law_near [tabD cs rows, coreV w K N] fun x => ∃ ds : List D, x = .nw (.list ds) ∧ ds ≠ [] ∧ PL 2 29 ds := fun c hc => (law_near_spec hc T hC).mono fun x o ⟨ds, c', h1, h2, h3, h4, h5⟩ => ⟨c', h4, h5, by rw [h1]; rfl, ds, h1, h2, h3⟩
theorem ev_ifVT {e : En} {t : Mo Bool} {ma mb : Mo Vx} {d : D} (h : EvB t e true) (ha : EvV ma e d) : EvV (mIf t ma mb) e d := by
  unfold EvV
  rw [w_if]
  refine h.mono ?_
  rintro c e1 ⟨rfl, rfl⟩
  rw [if_pos rfl]
  exact ha
theorem ev_ifVF {e : En} {t : Mo Bool} {ma mb : Mo Vx} {d : D} (h : EvB t e false) (ha : EvV mb e d) : EvV (mIf t ma mb) e d := by
  unfold EvV
  rw [w_if]
  refine h.mono ?_
  rintro c e1 ⟨rfl, rfl⟩
  rw [if_neg (by simp)]
  exact ha
/-- a word among words -/
theorem eb_words {e : En} {i : Nat} {w : Str} {zs : List Str} {ms : Mo (List Vx)} (hv : e[i]? = some (.fz (.str w))) (hw : smS w = true) (hz : ∀ z, z ∈ zs → smS z = true) (hm : EvL ms e (zs.map .str)) (hl : zs.length ≤ 1000) : EvB (mTst (mOp (opB dIn) (mVar i) (mTup ms))) e (decide (w ∈ zs)) :=
  eb_cmp (ev_var hv).toD (ev_tup hm (by rw [List.length_map]; omega)).toD (in_texts (n := 0) (.inr rfl) hw hz)
def pR0 : So := (sSet 1 (mCall [true] f_law_some (mCons (mVar 0) (mCons (mLst (mCons (mC (.str "ring")) (mCons (mC (.str "arch")) (mCons (mC (.str "fork")) (mCons (mC (.str "comb")) (mCons (mC (.str "step")) mNil)))))) mNil))))
def pR1 : So := (sSet 2 (mIf (mTst (mOp (opB dIn) (mVar 1) (mTup (mCons (mC (.str "ring")) (mCons (mC (.str "fork")) mNil))))) (mC (.int 3)) (mC (.int 4))))
def pR2 : So := (sSet 3 (mIf (mTst (mOp (opB dIn) (mVar 1) (mTup (mCons (mC (.str "comb")) (mCons (mC (.str "step")) mNil))))) (mC (.int 4)) (mCall [true] f_law_some (mCons (mVar 0) (mCons (mLst (mCons (mVar 2) (mCons (mOp dAdd (mVar 2) (mC (.int 1))) (mCons (mC (.int 6)) (mCons (mOp dAdd (mVar 2) (mCall [true] f_law_roll (mCons (mVar 0) (mCons (mOp dSub (mC (.int 21)) (mVar 2)) mNil)))) mNil))))) mNil)))))
def pR3 : So := (sGet (gTpN 2 (gCn (gNm 4) (gCn (gNm 5) gNl))) (mCall [true] f_law_planted (mCons (mVar 0) (mCons (mVar 1) (mCons (mVar 3) mNil)))))
def pR4 : So := (sSet 6 (mCall [true] f_law_turned (mCons (mVar 0) (mCons (mVar 5) mNil))))
def pR5 : So := (sIf (mOr (mTst (mOp (opB dIsn) (mCall [] f_is_core (mCons (mVar 4) (mCons (mVar 5) mNil))) (mC (.bool true)))) (mTst (mOp (opB dIsn) (mCall [] f_is_core (mCons (mVar 4) (mCons (mVar 6) mNil))) (mC (.bool true))))) (sSeq (sRet (mC (.bool false))) sSkip) sSkip)
def pRv : So := (sSeq (sIf (mNot (mTst (mCall [] (f_law_same 6) (mCons (mCall [] f_is_core (mCons (mVar 4) (mCons (mVar 7) mNil))) (mCons (mCall [] f_law_judge (mCons (mVar 4) (mCons (mVar 7) mNil))) mNil))))) (sSeq (sRet (mC (.bool false))) sSkip) sSkip) sSkip)
def pR6 : So := (sFor (gNm 7) (mIt (mLc [14] (gNm 14) (mRng1 (mCons (mC (.int 15)) mNil)) (mRet true) (mCall [true] f_law_some (mCons (mVar 0) (mCons (mCall [true] f_law_near (mCons (mVar 0) (mCons (mVar 4) (mCons (mCall [true] f_law_some (mCons (mVar 0) (mCons (mLst (mCons (mVar 5) (mCons (mVar 6) mNil))) mNil))) mNil)))) mNil))))) pRv)
def pR7 : So := (sPar [8, 9] (mConsF (mCall [true] f_law_some (mCons (mVar 0) (mCons (mOp dIx (mVar 5) (mC (.int 1))) mNil))) (mConsF (mCall [true] f_law_some (mCons (mVar 0) (mCons (mOp dIx (mVar 5) (mC (.int 2))) mNil))) mNil)))
def pR8 : So := (sSet 10 (mLst mNil))
def pRr : So := (sSeq (sSet 13 (mCb dTup (mCons (mLc [15] (gNm 15) (mIt (mVar 12)) (mTst (mOp (opB dNe) (mVar 15) (mVar 9))) (mVar 15)) mNil))) (sSeq (sDrop (mMut "list" 10 fAppend (mCons (mTup (mCons (mVar 11) (mCons (mIf (mTst (mOp (opB dNe) (mVar 11) (mVar 8))) (mVar 12) (mIf (mTst (mOp (opB dIn) (mVar 9) (mVar 12))) (mVar 13) (mCb dTup (mCons (mCb dSorted (mCons (mOp dAdd (mVar 12) (mTup (mCons (mVar 9) mNil))) mNil)) mNil)))) mNil))) mNil))) sSkip))
def pR9 : So := (sFor (gTpN 2 (gCn (gNm 11) (gCn (gNm 12) gNl))) (mIt (mOp dIx (mVar 4) (mC (.int 1)))) pRr)
def pR10 : So := (sIf (mAnd (mTst (mOp (opB dEq) (mLc [11, 12] (gTpN 2 (gCn (gNm 11) (gCn (gNm 12) gNl))) (mIt (mVar 10)) (mTst (mOp (opB dEq) (mVar 12) (mTup mNil))) (mC (.int 1))) (mLst mNil))) (mTst (mOp (opB dIsn) (mCall [] f_is_core (mCons (mTup (mCons (mOp dIx (mVar 4) (mC (.int 0))) (mCons (mCb dTup (mCons (mVar 10) mNil)) mNil))) (mCons (mVar 5) mNil))) (mC (.bool false))))) (sSeq (sRet (mC (.bool false))) sSkip) sSkip)
def pR11 : So := (sRet (mC (.bool true)))
theorem pR_eq : m_law_right = sSeq pR0 (sSeq pR1 (sSeq pR2 (sSeq pR3 (sSeq pR4 (sSeq pR5 (sSeq pR6 (sSeq pR7 (sSeq pR8 (sSeq pR9 (sSeq pR10 (sSeq pR11 sSkip))))))))))) := rfl
def rR (s1 s2 s3 s4 s5 s6 s7 s8 s9 s10 s11 s12 s13 : Sl) : En := [s1, s2, s3, s4, s5, s6, s7, s8, s9, s10, s11, s12, s13, .un, .un]
section
variable {cs : List Str} {rows : List Row} {w k nm : Str} {K N : List Str} {c d : D} {n : Nat} {s1 s2 s3 s4 s5 s6 s7 s8 s9 s10 s11 s12 s13 : Sl} {Q : Ed} {rest : So}
theorem pR0_spec (hc : CupOk c) (h : ∀ c w, CupOk c → w ∈ W5 → wS rest (.bo c :: rR (.fz (.str w)) .un .un .un .un .un .un .un .un .un .un .un .un) Q) : wS (sSeq pR0 rest) (.bo c :: rR .un .un .un .un .un .un .un .un .un .un .un .un .un) Q := by
  refine sq_setC hc (EC.mono (ec_call (ecl_cons (ec_n (d := .list (W5.map .str)) (fun c => ev_lst (evs_cons ev_c.toD (evs_cons ev_c.toD (evs_cons ev_c.toD (evs_cons ev_c.toD (evs_cons ev_c.toD evs_nil))))) (by decide)) (ecl_nil ⟨_, .cons vst_nw .nil, some_drw some_ok (.inl rfl) (by decide) (by decide)⟩)))) ?_)
  rintro x ⟨d, rfl, hd⟩
  obtain ⟨w, hw, rfl⟩ := List.mem_map.mp hd
  exact ⟨_, _, .inl ⟨_, rfl, rfl⟩, fun _ => rfl, fun c hc => h c w hc hw⟩
theorem two_sm : (∀ z ∈ (["ring", "fork"] : List Str), smS z = true) ∧ ∀ z ∈ (["comb", "step"] : List Str), smS z = true := by decide +kernel
theorem pR1_spec (hw : w ∈ W5) (h : wS rest (.bo c :: rR (.fz (.str w)) (.fz (.int (lo w : Nat))) .un .un .un .un .un .un .un .un .un .un .un) Q) : wS (sSeq pR1 rest) (.bo c :: rR (.fz (.str w)) .un .un .un .un .un .un .un .un .un .un .un .un) Q := by
  have hb := eb_words (e := .bo c :: rR (.fz (.str w)) .un .un .un .un .un .un .un .un .un .un .un .un) (i := 1) rfl (w5_sm w hw) two_sm.1 (evs_cons ev_c.toD (evs_cons ev_c.toD evs_nil)) (by simp)
  have hl : ∀ w ∈ W5, lo w = if w ∈ (["ring", "fork"] : List Str) then 3 else 4 := by decide +kernel
  refine sq_setV (d := .int (lo w : Nat)) ?_ rfl h
  rw [hl w hw]
  by_cases hm : w ∈ (["ring", "fork"] : List Str)
  · rw [if_pos hm]
    rw [decide_eq_true hm] at hb
    exact ev_ifVT hb ev_c
  · rw [if_neg hm]
    rw [decide_eq_false hm] at hb
    exact ev_ifVF hb ev_c
theorem pR2_spec (hc : CupOk c) (hw : w ∈ W5) (h : ∀ c n, CupOk c → okW w n = true → wS rest (.bo c :: rR (.fz (.str w)) (.fz (.int (lo w : Nat))) (.fz (.int (n : Nat))) .un .un .un .un .un .un .un .un .un .un) Q) : wS (sSeq pR2 rest) (.bo c :: rR (.fz (.str w)) (.fz (.int (lo w : Nat))) .un .un .un .un .un .un .un .un .un .un .un) Q := by
  have hl : ∀ w ∈ W5, (w ∈ (["comb", "step"] : List Str) ∧ lo w = 4 ∧ hi w = 4) ∨ (w ∉ (["comb", "step"] : List Str) ∧ 3 ≤ lo w ∧ lo w ≤ 4 ∧ hi w = 20) := by decide +kernel
  have hok : ∀ n : Nat, lo w ≤ n → n ≤ hi w → okW w n = true := fun n h1 h2 => by
    unfold okW
    rw [decide_eq_true hw, decide_eq_true h1, decide_eq_true h2]
    rfl
  refine sq_setC hc (EC.mono (P := fun x => ∃ n : Nat, x = .v (.int n) ∧ okW w n = true) (ec_if ?_) ?_)
  · refine ecb_p (fun c => eb_words (i := 1) rfl (w5_sm w hw) two_sm.2 (evs_cons ev_c.toD (evs_cons ev_c.toD evs_nil)) (by simp)) ?_
    rcases hl w hw with ⟨h1, h2, h3⟩ | ⟨h1, h2, h3, h4⟩
    · rw [decide_eq_true h1, if_pos rfl]
      exact ec_c ⟨4, rfl, hok 4 (by omega) (by omega)⟩
    · rw [decide_eq_false h1, if_neg (by simp)]
      have v2 : ∀ c : D, EvD (mVar 2) (.bo c :: rR (.fz (.str w)) (.fz (.int (lo w : Nat))) .un .un .un .un .un .un .un .un .un .un .un) (.int (lo w : Nat)) := fun _ => (ev_var rfl).toD
      have hroll : EC (mCall [true] f_law_roll (mCons (mVar 0) (mCons (mOp dSub (mC (.int 21)) (mVar 2)) mNil))) (rR (.fz (.str w)) (.fz (.int (lo w : Nat))) .un .un .un .un .un .un .un .un .un .un .un) fun x => ∃ z : Int, x = .v (.int z) ∧ 0 ≤ z ∧ z < 21 - (lo w : Int) := ec_call (ecl_cons (ec_v (fun c => ev_opV ev_c.toD (v2 c) dSub_i) (ecl_nil ⟨_, .cons vst_v .nil, roll_drw roll_ok (by omega) (by omega)⟩)))
      have hsome : ∀ z : Int, 0 ≤ z → z < 21 - (lo w : Int) → Drw f_law_some [.list [.int (lo w : Nat), .int ((lo w : Nat) + 1), .int 6, .int ((lo w : Nat) + z)]] fun x => ∃ n : Nat, x = .v (.int n) ∧ okW w n = true := fun z g0 g1 c hc => by
        refine (some_drw some_ok (.inl rfl) (by simp) (by simp) c hc).mono ?_
        rintro x o ⟨c', q1, q2, q3, d, q4, q5⟩
        refine ⟨c', q1, q2, q3, ?_⟩
        simp only [List.mem_cons, List.not_mem_nil, or_false] at q5
        rcases q5 with rfl | rfl | rfl | rfl
        · exact ⟨lo w, q4, hok _ (by omega) (by omega)⟩
        · exact ⟨lo w + 1, by rw [q4]; rfl, hok _ (by omega) (by omega)⟩
        · exact ⟨6, q4, hok _ (by omega) (by omega)⟩
        · refine ⟨(lo w + z).toNat, ?_, hok _ (by omega) (by omega)⟩
          rw [q4]
          congr 2
          omega
      refine ec_call (ecl_cons (ec_lst (ecl_cons (ec_var (d := .int (lo w : Nat)) rfl (ecl_cons (ec_v (fun c => ev_opV (v2 c) ev_c.toD dAdd_i) (ecl_cons (ec_c (ecl_cons (ec_op (ec_var (d := .int (lo w : Nat)) rfl ⟨_, vst_v, hroll.mono ?_⟩)))))))))))
      rintro x ⟨z, rfl, g0, g1⟩
      exact ⟨_, vst_v, _, dAdd_i, ecl_nil ⟨_, .cons vst_v (.cons vst_v (.cons vst_v (.cons vst_v .nil))), by simp, ecl_nil ⟨_, .cons vst_nw .nil, hsome z g0 g1⟩⟩⟩
  · rintro x ⟨n, rfl, hn⟩
    exact ⟨_, _, .inl ⟨_, rfl, rfl⟩, fun _ => rfl, fun c hc => h c n hc hn⟩
end
end L_k31
set_option Elab.async false
set_option linter.all false
set_option maxRecDepth 100000
set_option maxHeartbeats 1000000
namespace L_k31
open PySem PySem.Spec PyProof.Rows L2 Fw
theorem isn_b {a b : Bool} : dIsn (.bool a) (.bool b) = some (!decide (a = b)) := by
  show (dIs (.bool a) (.bool b)).map not = _
  rw [dIs_b]
  rfl
theorem core_smv {cs : List Str} {rows : List Row} {w : Str} {K N : List Str} (T : TabG cs rows) (hC : coreS cs rows w K N = true) : PL 0 21 (K.map PyData.str) ∧ PL 0 21 (N.map PyData.str) ∧ sm 2 (coreV w K N) = true ∧ K ≠ [] ∧ N ≠ [] := by
  have C := core_get hC
  obtain ⟨hw5, hlo, hhi, hn⟩ := okW_get C.ok
  obtain ⟨d1, d2, d3, d4⟩ := due_ok C.ok
  have hN0 : 0 < N.length := by
    obtain ⟨r, hr⟩ : ∃ r, (due w K.length)[0]? = some r := ⟨_, List.getElem?_eq_getElem (by omega)⟩
    have hr2 := List.mem_of_getElem? hr
    obtain ⟨j, hj⟩ := List.exists_mem_of_ne_nil r (due_ne C.ok hr2)
    have := (d2 r hr2).2.1 j hj
    rw [C.len]
    omega
  have h1 : PL 0 21 (K.map PyData.str) := strs_pl (by omega) fun z hz => by
    obtain ⟨q, hq, rfl⟩ := List.mem_map.mp (C.kin z hz)
    exact (T.kok q hq).2
  have h2 : PL 0 21 (N.map PyData.str) := strs_pl (by rw [C.len]; exact d3) fun z hz => (T.cok z (C.nin z hz)).2
  refine ⟨h1, h2, PL.t (core_pl hw5 h1 h2) (by omega), ?_, ?_⟩
  · rintro rfl
    simp at d4
  · rintro rfl
    simp at hN0
section
variable {cs : List Str} {rows : List Row} {w k nm : Str} {K N K' N' : List Str} {c d : D} {n : Nat} {s1 s2 s3 s4 s5 s6 s7 s8 s9 s10 s11 s12 s13 : Sl} {Q : Ed} {rest : So}
/-- is_core(table, v) is not b -/
theorem isn_core (T : TabG cs rows) {e : En} {m1 m2 : Mo Vx} {v : D} {b : Bool} {n : Nat} (h1 : EvD m1 e (tabD cs rows)) (h2 : EvD m2 e v) (hv : sm n v = true) (hn : n ≤ 60) : EvB (mTst (mOp (opB dIsn) (mCall [] f_is_core (mCons m1 (mCons m2 mNil))) (mC (.bool b)))) e (!decide (coreD cs rows v = b)) :=
  eb_cmp (ev_calls (evs_cons h1 (evs_cons h2 evs_nil)) (is_core_spec T.w T.is T.sm hn hv)).toD ev_c.toD isn_b
def eR (c : D) (w : Str) (n : Nat) (cs : List Str) (rows : List Row) (K N K' N' : List Str) (s7 s8 s9 s10 s11 s12 s13 : Sl) : En := .bo c :: rR (.fz (.str w)) (.fz (.int (lo w : Nat))) (.fz (.int (n : Nat))) (.fz (tabD cs rows)) (.fz (coreV w K N)) (.fz (coreV w K' N')) s7 s8 s9 s10 s11 s12 s13
theorem pR5_spec (T : TabG cs rows) (hC : coreS cs rows w K N = true) (hC' : coreS cs rows w K' N' = true) (h : wS rest (eR c w n cs rows K N K' N' .un .un .un .un .un .un .un) Q) : wS (sSeq pR5 rest) (eR c w n cs rows K N K' N' .un .un .un .un .un .un .un) Q := by
  refine sq_bad (eb_or (isn_core T (b := true) (ev_var rfl).toD (ev_var rfl).toD (core_smv T hC).2.2.1 (by omega)) (isn_core T (b := true) (ev_var rfl).toD (ev_var rfl).toD (core_smv T hC').2.2.1 (by omega))) (fun hb => ?_) fun _ => h
  rw [coreD_core, coreD_core, hC, hC'] at hb
  cases hb
theorem pRv_spec (T : TabG cs rows) {v : D} (hv : sm 2 v = true) (h : Q.nx (eR c w n cs rows K N K' N' (.fz v) s8 s9 s10 s11 s12 s13)) : wS pRv (eR c w n cs rows K N K' N' (.fz v) s8 s9 s10 s11 s12 s13) Q := by
  have e0 : pRv = sSeq (sBad (mNot (mTst (mCall [] (f_law_same 6) (mCons (mCall [] f_is_core (mCons (mVar 4) (mCons (mVar 7) mNil))) (mCons (mCall [] f_law_judge (mCons (mVar 4) (mCons (mVar 7) mNil))) mNil)))))) sSkip := rfl
  rw [e0]
  refine sq_bad (eb_not (eb_tst (ev_calls (evs_cons (ev_calls (evs_cons (ev_var (d := tabD cs rows) rfl).toD (evs_cons (ev_var (d := v) rfl).toD evs_nil)) (is_core_spec T.w T.is T.sm (n := 2) (by omega) hv)).toD (evs_cons (ev_calls (evs_cons (ev_var (d := tabD cs rows) rfl).toD (evs_cons (ev_var (d := v) rfl).toD evs_nil)) (law_judge_spec T.w (n := 2) (by omega) hv)).toD evs_nil)) (same_bool (n := 5))).toD)) (fun hb => by cases hb) fun _ => ?_
  rw [w_skip]
  exact h
theorem pR6_spec (hc : CupOk c) (T : TabG cs rows) (hC : coreS cs rows w K N = true) (hC' : coreS cs rows w K' N' = true) (h : ∀ c s7, CupOk c → FzUn s7 → wS rest (eR c w n cs rows K N K' N' s7 .un .un .un .un .un .un) Q) : wS (sSeq pR6 rest) (eR c w n cs rows K N K' N' .un .un .un .un .un .un .un) Q := by
  rw [w_seq]
  unfold pR6
  rw [w_for, w_it]
  have hEC : EC (mLc [14] (gNm 14) (mRng1 (mCons (mC (.int 15)) mNil)) (mRet true) (mCall [true] f_law_some (mCons (mVar 0) (mCons (mCall [true] f_law_near (mCons (mVar 0) (mCons (mVar 4) (mCons (mCall [true] f_law_some (mCons (mVar 0) (mCons (mLst (mCons (mVar 5) (mCons (mVar 6) mNil))) mNil))) mNil)))) mNil)))) (rR (.fz (.str w)) (.fz (.int (lo w : Nat))) (.fz (.int (n : Nat))) (.fz (tabD cs rows)) (.fz (coreV w K N)) (.fz (coreV w K' N')) .un .un .un .un .un .un .un) fun x => ∃ ys : List D, x = .nw (.list ys) ∧ ∀ y, y ∈ ys → sm 2 y = true := by
    refine ec_lcd (eci_rng (ec_c ⟨15, 15, vst_v, rfl, by omega, ?_⟩))
    refine ⟨by rw [rng_len]; omega, fun _ => rfl, fun _ y => sm 2 y = true, _, fun _ => rfl, fun _ _ => rfl, fun i d hd => ⟨[.fz (.str w), .fz (.int (lo w : Nat)), .fz (.int (n : Nat)), .fz (tabD cs rows), .fz (coreV w K N), .fz (coreV w K' N'), .un, .un, .un, .un, .un, .un, .un, .fz d, .un], fun _ => rfl, fun _ => rfl, ?_⟩, fun ys _ hy => ⟨ys, rfl, fun y hy2 => ?_⟩⟩
    · have h1 : EC (mCall [true] f_law_some (mCons (mVar 0) (mCons (mLst (mCons (mVar 5) (mCons (mVar 6) mNil))) mNil))) [.fz (.str w), .fz (.int (lo w : Nat)), .fz (.int (n : Nat)), .fz (tabD cs rows), .fz (coreV w K N), .fz (coreV w K' N'), .un, .un, .un, .un, .un, .un, .un, .fz d, .un] fun x => ∃ K2 N2 : List Str, x = .v (coreV w K2 N2) ∧ coreS cs rows w K2 N2 = true := by
        refine ec_call (ecl_cons (ec_n (fun c => ev_lst (evs_cons (ev_var (d := coreV w K N) rfl).toD (evs_cons (ev_var (d := coreV w K' N') rfl).toD evs_nil)) (by simp)) (ecl_nil ⟨_, .cons vst_nw .nil, fun c hc => (some_drw some_ok (.inl rfl) (by simp) (by simp) c hc).mono ?_⟩)))
        rintro x o ⟨c', q1, q2, q3, d, q4, q5⟩
        refine ⟨c', q1, q2, q3, ?_⟩
        simp only [List.mem_cons, List.not_mem_nil, or_false] at q5
        rcases q5 with rfl | rfl
        · exact ⟨K, N, q4, hC⟩
        · exact ⟨K', N', q4, hC'⟩
      have h2 : EC (mCall [true] f_law_near (mCons (mVar 0) (mCons (mVar 4) (mCons (mCall [true] f_law_some (mCons (mVar 0) (mCons (mLst (mCons (mVar 5) (mCons (mVar 6) mNil))) mNil))) mNil)))) [.fz (.str w), .fz (.int (lo w : Nat)), .fz (.int (n : Nat)), .fz (tabD cs rows), .fz (coreV w K N), .fz (coreV w K' N'), .un, .un, .un, .un, .un, .un, .un, .fz d, .un] fun x => ∃ ds : List D, x = .nw (.list ds) ∧ ds ≠ [] ∧ PL 2 29 ds := by
        refine ec_call (ecl_cons (ec_var (d := tabD cs rows) rfl (ecl_cons (h1.mono ?_))))
        rintro x ⟨K2, N2, rfl, hC2⟩
        exact ecl_nil ⟨_, .cons vst_v (.cons vst_v .nil), near_drw T hC2⟩
      refine ec_call (ecl_cons (h2.mono ?_))
      rintro x ⟨ds, rfl, hd0, hds⟩
      refine ecl_nil ⟨_, .cons vst_nw .nil, fun c hc => (some_drw some_ok (.inl rfl) hd0 (by have := hds.1; omega) c hc).mono ?_⟩
      rintro x o ⟨c', q1, q2, q3, d, q4, q5⟩
      exact ⟨c', q1, q2, q3, d, by rw [q4]; exact vst_v, hds.2 d q5⟩
    · obtain ⟨i, hi⟩ := List.getElem?_of_mem hy2
      exact hy i y hi
  refine (hEC c hc).mono ?_
  rintro x e1 ⟨c1, hc1, rfl, ys, rfl, hys⟩
  rw [w_val_nw, itD_list, wIt_some]
  refine for_inv (fun i e => ∃ s7, e = eR c1 w n cs rows K N K' N' s7 .un .un .un .un .un .un ∧ FzUn s7) ⟨_, rfl, .inl rfl⟩ ?_ ?_
  · rintro i d e hd ⟨s7, rfl, h7⟩
    refine ⟨eR c1 w n cs rows K N K' N' (.fz d) .un .un .un .un .un .un, ?_, ?_⟩
    · rw [gNm_s, setSl_p]
      exact fzUn_set h7
    · exact pRv_spec T (hys d (List.mem_of_getElem? hd)) ⟨_, rfl, .inr ⟨_, rfl⟩⟩
  · rintro e ⟨s7, rfl, h7⟩
    exact h c1 s7 hc1 h7
theorem pR7_spec (hc : CupOk c) (T : TabG cs rows) (hC : coreS cs rows w K N = true) (h7 : FzUn s7) (h : ∀ c k nm, CupOk c → k ∈ K → nm ∈ N → wS rest (eR c w n cs rows K N K' N' s7 (.fz (.str k)) (.fz (.str nm)) .un .un .un .un) Q) : wS (sSeq pR7 rest) (eR c w n cs rows K N K' N' s7 .un .un .un .un .un .un) Q := by
  obtain ⟨h1, h2, h3, h4, h5⟩ := core_smv T hC
  refine sq_parC hc (ecl_consF (EC.mono (ec_call (ecl_cons (ec_v (d := .tuple (K.map .str)) (fun c => ev_opV (a := coreV w K N) (b := .int 1) (ev_var rfl).toD ev_c.toD rfl) (ecl_nil ⟨_, .cons vst_v .nil, some_drw some_ok (.inr rfl) (by simpa using h4) (by have := h1.1; omega)⟩)))) ?_))
  rintro x ⟨d, rfl, hd⟩
  obtain ⟨k, hk, rfl⟩ := List.mem_map.mp hd
  refine ⟨rfl, ecl_consF (EC.mono (ec_call (ecl_cons (ec_v (d := .tuple (N.map .str)) (fun c => ev_opV (a := coreV w K N) (b := .int 2) (ev_var rfl).toD ev_c.toD rfl) (ecl_nil ⟨_, .cons vst_v .nil, some_drw some_ok (.inr rfl) (by simpa using h5) (by have := h2.1; omega)⟩)))) ?_)⟩
  rintro x ⟨d, rfl, hd⟩
  obtain ⟨nm, hn, rfl⟩ := List.mem_map.mp hd
  exact ⟨rfl, ecl_nil ⟨_, fun _ => rfl, fun c hc => h c k nm hc hk hn⟩⟩
theorem pR8_spec (h : wS rest (eR c w n cs rows K N K' N' s7 s8 s9 (.ow (.list [])) .un .un .un) Q) : wS (sSeq pR8 rest) (eR c w n cs rows K N K' N' s7 s8 s9 .un .un .un .un) Q :=
  sq_setN (ev_lst evs_nil (by simp)) rfl h
/-! one row is flipped -/
def neD (nm : Str) : D → Bool
  | .str z => decide (z ≠ nm)
  | _ => false
theorem pRr_spec (T : TabG cs rows) {q : Row} (hq : q ∈ rows) (hk : smS k = true) (hnm : smS nm = true) {acc : List D} (hal : acc.length ≤ 100) (h13 : FzUn s13)
    (h : ∀ s13, FzUn s13 → Q.nx (eR c w n cs rows K N K' N' s7 (.fz (.str k)) (.fz (.str nm)) (.ow (.list (acc ++ [rowR (flp k nm q)]))) (.fz (.str q.1)) (.fz (.tuple (q.2.map .str))) s13)) :
    wS pRr (eR c w n cs rows K N K' N' s7 (.fz (.str k)) (.fz (.str nm)) (.ow (.list acc)) (.fz (.str q.1)) (.fz (.tuple (q.2.map .str))) s13) Q := by
  have hql := T.rlen hq
  have hqs : ∀ z, z ∈ q.2 → smS z = true := fun z hz => (T.cok z (T.rin q hq z hz)).2
  have hq1 := (T.kok q hq).2
  have hoth : EvV (mCb dTup (mCons (mLc [15] (gNm 15) (mIt (mVar 12)) (mTst (mOp (opB dNe) (mVar 15) (mVar 9))) (mVar 15)) mNil)) (eR c w n cs rows K N K' N' s7 (.fz (.str k)) (.fz (.str nm)) (.ow (.list acc)) (.fz (.str q.1)) (.fz (.tuple (q.2.map .str))) s13) (.tuple ((q.2.filter fun z => decide (z ≠ nm)).map .str)) := by
    refine ev_cbV (evs_cons (EvN.toD (d := .list ((q.2.filter fun z => decide (z ≠ nm)).map .str)) ?_) evs_nil) dTup_l
    have e0 : (q.2.filter fun z => decide (z ≠ nm)).map PyData.str = (q.2.map PyData.str).filter (neD nm) := by
      rw [List.filter_map]
      rfl
    rw [e0]
    refine lc_flt ?_
    rw [w_it]
    refine (ev_var (d := .tuple (q.2.map .str)) rfl).mono ?_
    rintro x e1 ⟨rfl, rfl⟩
    rw [w_val_v, itD_t, wIt_some]
    refine ⟨rfl, by rw [List.length_map]; omega, neD nm, fun d hd => ⟨(eR c w n cs rows K N K' N' s7 (.fz (.str k)) (.fz (.str nm)) (.ow (.list acc)) (.fz (.str q.1)) (.fz (.tuple (q.2.map .str))) s13).set 15 (.fz d), rfl, ?_⟩, rfl, rfl⟩
    obtain ⟨z, hz, rfl⟩ := List.mem_map.mp hd
    have e5 : neD nm (.str z) = decide (z ≠ nm) := rfl
    rw [e5]
    refine wM.mono (Q := fun c e3 => e3 = _ ∧ c = decide (z ≠ nm)) (eb_cmp (ev_var (d := .str z) rfl).toD (ev_var (d := .str nm) rfl).toD (by rw [dNe_s]; congr 1; rw [Bool.eq_iff_iff]; simp)) ?_
    rintro c e3 ⟨rfl, rfl⟩
    refine ⟨rfl, ?_⟩
    split
    · refine (ev_var (d := .str z) rfl).mono ?_
      rintro x e4 ⟨rfl, rfl⟩
      rw [w_val_v]
      exact ⟨rfl, rfl⟩
    · rfl
  have e0 : pRr = sSeq (sSet 13 (mCb dTup (mCons (mLc [15] (gNm 15) (mIt (mVar 12)) (mTst (mOp (opB dNe) (mVar 15) (mVar 9))) (mVar 15)) mNil))) (sSeq (sDrop (mMut "list" 10 fAppend (mCons (mTup (mCons (mVar 11) (mCons (mIf (mTst (mOp (opB dNe) (mVar 11) (mVar 8))) (mVar 12) (mIf (mTst (mOp (opB dIn) (mVar 9) (mVar 12))) (mVar 13) (mCb dTup (mCons (mCb dSorted (mCons (mOp dAdd (mVar 12) (mTup (mCons (mVar 9) mNil))) mNil)) mNil)))) mNil))) mNil))) sSkip) := rfl
  rw [e0]
  refine sq_setV (e1 := eR c w n cs rows K N K' N' s7 (.fz (.str k)) (.fz (.str nm)) (.ow (.list acc)) (.fz (.str q.1)) (.fz (.tuple (q.2.map .str))) (.fz (.tuple ((q.2.filter fun z => decide (z ≠ nm)).map .str)))) hoth (by rw [setSl_p]; exact fzUn_set h13) ?_
  have hne : EvB (mTst (mOp (opB dNe) (mVar 11) (mVar 8))) (eR c w n cs rows K N K' N' s7 (.fz (.str k)) (.fz (.str nm)) (.ow (.list acc)) (.fz (.str q.1)) (.fz (.tuple (q.2.map .str))) (.fz (.tuple ((q.2.filter fun z => decide (z ≠ nm)).map .str)))) (decide (q.1 ≠ k)) := eb_cmp (ev_var (d := .str q.1) rfl).toD (ev_var (d := .str k) rfl).toD (by rw [dNe_s]; congr 1; rw [Bool.eq_iff_iff]; simp)
  have hin : EvB (mTst (mOp (opB dIn) (mVar 9) (mVar 12))) (eR c w n cs rows K N K' N' s7 (.fz (.str k)) (.fz (.str nm)) (.ow (.list acc)) (.fz (.str q.1)) (.fz (.tuple (q.2.map .str))) (.fz (.tuple ((q.2.filter fun z => decide (z ≠ nm)).map .str)))) (decide (nm ∈ q.2)) := eb_cmp (ev_var (d := .str nm) rfl).toD (ev_var (d := .tuple (q.2.map .str)) rfl).toD (in_texts (n := 0) (.inr rfl) hnm hqs)
  have hif : EvD (mIf (mTst (mOp (opB dNe) (mVar 11) (mVar 8))) (mVar 12) (mIf (mTst (mOp (opB dIn) (mVar 9) (mVar 12))) (mVar 13) (mCb dTup (mCons (mCb dSorted (mCons (mOp dAdd (mVar 12) (mTup (mCons (mVar 9) mNil))) mNil)) mNil)))) (eR c w n cs rows K N K' N' s7 (.fz (.str k)) (.fz (.str nm)) (.ow (.list acc)) (.fz (.str q.1)) (.fz (.tuple (q.2.map .str))) (.fz (.tuple ((q.2.filter fun z => decide (z ≠ nm)).map .str)))) (rowV (flp k nm q)) := by
    unfold flp rowV
    by_cases h1 : q.1 = k
    · rw [if_pos h1]
      rw [decide_eq_false (by simpa using h1)] at hne
      refine ev_ifF hne ?_
      by_cases h2 : nm ∈ q.2
      · rw [if_pos h2]
        rw [decide_eq_true h2] at hin
        exact ev_ifT hin (ev_var rfl).toD
      · rw [if_neg h2]
        rw [decide_eq_false h2] at hin
        refine ev_ifF hin (EvV.toD (ev_cbV (evs_cons (EvN.toD (ev_cbN (evs_cons (ev_addT (ev_var (d := .tuple (q.2.map .str)) rfl).toD (ev_tup (ds := [.str nm]) (evs_cons (ev_var rfl).toD evs_nil) (by simp)).toD (by simp; omega)).toD evs_nil) (z := .list (((q.2 ++ [nm]).mergeSort strLe).map .str)) ?_)) evs_nil) dTup_l))
        have e6 : q.2.map PyData.str ++ [.str nm] = (q.2 ++ [nm]).map .str := by rw [List.map_append]; rfl
        rw [e6, dSorted_t, if_pos (sort_ok (fun z hz => ?_) (by simp; omega)), sortD_strs]
        rcases List.mem_append.mp hz with hz | hz
        · exact hqs z hz
        · rw [List.mem_singleton.mp hz]
          exact hnm
    · rw [if_neg h1]
      rw [decide_eq_true h1] at hne
      exact ev_ifT hne (ev_var rfl).toD
  have hrow : rowR (flp k nm q) = .tuple [.str q.1, rowV (flp k nm q)] := by
    unfold rowR
    rw [flp_key]
  refine sq_app (xs := acc) (d := rowR (flp k nm q)) rfl (by rw [hrow]; exact (ev_tup (evs_cons (ev_var rfl).toD (evs_cons hif evs_nil)) (by simp)).toD) (by omega) ?_
  rw [w_skip]
  exact h _ (.inr ⟨_, rfl⟩)
theorem pR9_spec (T : TabG cs rows) (hk : smS k = true) (hnm : smS nm = true)
    (h : ∀ s11 s12 s13, FzUn s11 → FzUn s12 → FzUn s13 → wS rest (eR c w n cs rows K N K' N' s7 (.fz (.str k)) (.fz (.str nm)) (.ow (.list ((rows.map (flp k nm)).map rowR))) s11 s12 s13) Q) :
    wS (sSeq pR9 rest) (eR c w n cs rows K N K' N' s7 (.fz (.str k)) (.fz (.str nm)) (.ow (.list [])) .un .un .un) Q := by
  rw [w_seq]
  unfold pR9
  rw [w_for, w_it]
  refine (ev_opV (a := tabD cs rows) (b := .int 1) (z := .tuple (rows.map rowR)) (ev_var rfl).toD ev_c.toD rfl).mono ?_
  rintro x e1 ⟨rfl, rfl⟩
  rw [w_val_v, itD_t, wIt_some]
  refine for_inv (fun i e => ∃ s11 s12 s13, e = eR c w n cs rows K N K' N' s7 (.fz (.str k)) (.fz (.str nm)) (.ow (.list (((rows.take i).map (flp k nm)).map rowR))) s11 s12 s13 ∧ FzUn s11 ∧ FzUn s12 ∧ FzUn s13) ⟨_, _, _, rfl, .inl rfl, .inl rfl, .inl rfl⟩ ?_ ?_
  · rintro i d e hd ⟨s11, s12, s13, rfl, h11, h12, h13⟩
    rw [List.getElem?_map] at hd
    obtain ⟨q, hq, rfl⟩ := Option.map_eq_some_iff.mp hd
    have htk : rows.take (i + 1) = rows.take i ++ [q] := by
      rw [List.take_succ, hq]
      rfl
    have hil : ((rows.take i).map (flp k nm)).map rowR = ((rows.take i).map (flp k nm)).map rowR := rfl
    have hrl := T.klen
    refine ⟨eR c w n cs rows K N K' N' s7 (.fz (.str k)) (.fz (.str nm)) (.ow (.list (((rows.take i).map (flp k nm)).map rowR))) (.fz (.str q.1)) (.fz (.tuple (q.2.map .str))) s13, ?_, ?_⟩
    · rcases h11 with rfl | ⟨d, rfl⟩ <;> rcases h12 with rfl | ⟨d, rfl⟩ <;> rfl
    · refine pRr_spec T (List.mem_of_getElem? hq) hk hnm (by simp; omega) h13 fun s13 h13 => ?_
      refine ⟨.fz (.str q.1), .fz (.tuple (q.2.map .str)), s13, ?_, .inr ⟨.str q.1, rfl⟩, .inr ⟨.tuple (q.2.map .str), rfl⟩, h13⟩
      rw [htk, List.map_append, List.map_append]
      rfl
  · rintro e ⟨s11, s12, s13, rfl, h11, h12, h13⟩
    rw [List.length_map, List.take_length]
    exact h s11 s12 s13 h11 h12 h13
end
end L_k31
set_option Elab.async false
set_option linter.all false
set_option maxRecDepth 100000
set_option maxHeartbeats 1000000
namespace L_k31
open PySem PySem.Spec PyProof.Rows L2 Fw
/-! a filtered row compared with [] -/
theorem flt_nil {L : List D} (h : PL 0 1000 L) : opB dEq (.list L) (.list []) = some (.v (.bool L.isEmpty)) :=
  opB_some (by rw [dEq_sm (h.l (by omega)) (show sm 1 (.list []) = true from rfl) (by omega), eqv_l, eqv_nil])
/-- [1 for .. in x if p] == [] -/
theorem flt_tst {e e1 : En} {vs : List Nat} {gm : D → En → Option En} {mi : Mo (List D)} {mt : Mo Bool} {ds : List D} {p : D → Bool}
    (hi : wM mi e fun x e2 => x = ds ∧ e2 = e1) (ho : ownOk e1 vs = true) (hl : ds.length ≤ 1000) (hr : restE e1 (wipeE e1 vs) vs = e1)
    (hp : ∀ d, d ∈ ds → ∃ e2, gm d (wipeE e1 vs) = some e2 ∧ EvB mt e2 (p d) ∧ wipeE e2 vs = wipeE e1 vs) :
    wM (mOp (opB dEq) (mLc vs gm mi mt (mC (.int 1))) (mLst mNil)) e fun x e2 => e2 = e1 ∧ x = .v (.bool (ds.filter p).isEmpty) := by
  have hlc : wM (mLc vs gm mi mt (mC (.int 1))) e fun x e2 => e2 = e1 ∧ x = .nw (.list ((ds.filter p).map fun _ => .int 1)) := by
    refine lc_fm (hi.mono ?_)
    rintro x e2 ⟨rfl, rfl⟩
    refine ⟨ho, by omega, fun d => if p d = true then some (.int 1) else none, fun d hd => ?_, hr, ?_⟩
    · obtain ⟨e3, h1, h2, h3⟩ := hp d hd
      refine ⟨e3, h1, wM.mono (Q := fun c e4 => e4 = e3 ∧ c = p d) h2 ?_⟩
      rintro c e4 ⟨rfl, rfl⟩
      cases hq : p d with
      | true =>
        rw [if_pos rfl]
        refine (ev_c (d := .int 1)).mono ?_
        rintro x e5 ⟨rfl, rfl⟩
        rw [w_val_v]
        exact ⟨if_pos hq, h3⟩
      | false =>
        rw [if_neg (by simp)]
        exact ⟨if_neg (by rw [hq]; simp), h3⟩
    · congr 2
      clear hi hl hp
      induction x with
      | nil => rfl
      | cons d ds ih =>
        rw [List.filterMap_cons, List.filter_cons]
        cases hq : p d with
        | true => rw [if_pos rfl, if_pos rfl, List.map_cons, ih]
        | false => rw [if_neg (by simp), if_neg (by simp), ih]
  rw [w_op]
  refine hlc.mono ?_
  rintro x e2 ⟨rfl, rfl⟩
  refine (ev_lst evs_nil (by simp)).mono ?_
  rintro y e3 ⟨rfl, rfl⟩
  rw [d_nw, d_nw, w2_some, flt_nil, wO_some]
  · refine ⟨rfl, ?_⟩
    cases ds.filter p <;> rfl
  · refine ⟨?_, fun d hd => ?_⟩
    · rw [List.length_map]
      exact Nat.le_trans (List.length_filter_le _ _) hl
    · obtain ⟨_, _, rfl⟩ := List.mem_map.mp hd
      rfl
def emR : D → Bool
  | .tuple [_, .tuple []] => true
  | _ => false
theorem emR_row {q : Row} : emR (rowR q) = q.2.isEmpty := by
  obtain ⟨a, b⟩ := q
  cases b <;> rfl
def rFt : Mo Bool := mTst (mOp (opB dEq) (mLc [11, 12] (gTpN 2 (gCn (gNm 11) (gCn (gNm 12) gNl))) (mIt (mVar 10)) (mTst (mOp (opB dEq) (mVar 12) (mTup mNil))) (mC (.int 1))) (mLst mNil))
def rFc : Mo Bool := mTst (mOp (opB dIsn) (mCall [] f_is_core (mCons (mTup (mCons (mOp dIx (mVar 4) (mC (.int 0))) (mCons (mCb dTup (mCons (mVar 10) mNil)) mNil))) (mCons (mVar 5) mNil))) (mC (.bool false)))
section
variable {cs : List Str} {rows R : List Row} {w k nm : Str} {K N K' N' : List Str} {c d : D} {n : Nat} {s1 s2 s3 s4 s5 s6 s7 s8 s9 s10 s11 s12 s13 : Sl} {Q : Ed} {rest : So}
theorem rFt_spec (hR : ∀ q, q ∈ R → smS q.1 = true ∧ q.2.length ≤ 1000 ∧ ∀ z, z ∈ q.2 → smS z = true) (hl : R.length ≤ 1000) (h11 : FzUn s11) (h12 : FzUn s12) : wM rFt (eR c w n cs rows K N K' N' s7 (.fz (.str k)) (.fz (.str nm)) (.ow (.list (R.map rowR))) s11 s12 s13) fun b e => e = eR c w n cs rows K N K' N' s7 (.fz (.str k)) (.fz (.str nm)) (.fz (.list (R.map rowR))) s11 s12 s13 ∧ b = ((R.map rowR).filter emR).isEmpty := by
  unfold rFt
  rw [w_tst]
  refine wM.mono (Q := fun x e2 => e2 = eR c w n cs rows K N K' N' s7 (.fz (.str k)) (.fz (.str nm)) (.fz (.list (R.map rowR))) s11 s12 s13 ∧ x = .v (.bool ((R.map rowR).filter emR).isEmpty)) (flt_tst (it_ow (d := .list (R.map rowR)) rfl (itD_list) rfl ⟨rfl, rfl⟩) ?_ (by rw [List.length_map]; exact hl) ?_ fun d hd => ?_) ?_
  · rcases h11 with rfl | ⟨d, rfl⟩ <;> rcases h12 with rfl | ⟨d, rfl⟩ <;> rfl
  · rcases h11 with rfl | ⟨d, rfl⟩ <;> rcases h12 with rfl | ⟨d, rfl⟩ <;> rfl
  · obtain ⟨q, hq, rfl⟩ := List.mem_map.mp hd
    obtain ⟨q1, q2, q3⟩ := hR q hq
    refine ⟨eR c w n cs rows K N K' N' s7 (.fz (.str k)) (.fz (.str nm)) (.fz (.list (R.map rowR))) (.fz (.str q.1)) (.fz (.tuple (q.2.map .str))) s13, rfl, ?_, rfl⟩
    rw [emR_row]
    refine eb_cmp (a := .tuple (q.2.map .str)) (ev_var rfl).toD (ev_tup evs_nil (by simp)).toD ?_
    have := PL.t (strs_pl q2 q3) (by omega)
    rw [dEq_sm this (show sm 1 (.tuple []) = true from rfl) (by omega), eqv_t, eqv_nil]
    cases q.2 <;> rfl
  · rintro x e2 ⟨rfl, rfl⟩
    rw [d_v, wB_some]
    exact ⟨rfl, rfl⟩
theorem pR10_spec (T : TabG cs rows) (hC : coreS cs rows w K N = true) (hk : k ∈ K) (hnm : nm ∈ N) (h11 : FzUn s11) (h12 : FzUn s12)
    (h : ∀ s10, wS rest (eR c w n cs rows K N K' N' s7 (.fz (.str k)) (.fz (.str nm)) s10 s11 s12 s13) Q) :
    wS (sSeq pR10 rest) (eR c w n cs rows K N K' N' s7 (.fz (.str k)) (.fz (.str nm)) (.ow (.list ((rows.map (flp k nm)).map rowR))) s11 s12 s13) Q := by
  have C := core_get hC
  have hnc := C.nin nm hnm
  have hR : ∀ q, q ∈ rows.map (flp k nm) → smS q.1 = true ∧ q.2.length ≤ 1000 ∧ ∀ z, z ∈ q.2 → smS z = true := by
    intro q hq
    obtain ⟨p, hp, rfl⟩ := List.mem_map.mp hq
    have hpl := T.rlen hp
    have hps : ∀ z, z ∈ p.2 → smS z = true := fun z hz => (T.cok z (T.rin p hp z hz)).2
    refine ⟨by rw [flp_key]; exact (T.kok p hp).2, ?_⟩
    unfold flp
    split
    · split
      · exact ⟨Nat.le_trans (List.length_filter_le _ _) (by omega), fun z hz => hps z (List.mem_filter.mp hz).1⟩
      · dsimp only
        refine ⟨by rw [List.length_mergeSort, List.length_append]; simp; omega, fun z hz => ?_⟩
        rw [(List.mergeSort_perm _ _).mem_iff] at hz
        rcases List.mem_append.mp hz with hz | hz
        · exact hps z hz
        · rw [List.mem_singleton.mp hz]
          exact (T.cok nm hnc).2
    · exact ⟨by omega, hps⟩
  have hl : (rows.map (flp k nm)).length ≤ 1000 := by
    have := T.klen
    rw [List.length_map]
    omega
  have e0 : pR10 = sIf (mAnd rFt rFc) (sSeq (sRet (mC (.bool false))) sSkip) sSkip := rfl
  rw [e0, w_seq, w_ifS, w_and]
  refine (rFt_spec hR hl h11 h12).mono ?_
  rintro b e ⟨rfl, hb⟩
  cases b with
  | false =>
    rw [if_neg (by simp), if_neg (by simp), w_skip]
    exact h _
  | true =>
    rw [if_pos rfl]
    have h0 : ∀ q, q ∈ rows.map (flp k nm) → q.2 ≠ [] := by
      intro q hq hq2
      have h1 : rowR q ∈ ((rows.map (flp k nm)).map rowR).filter emR := List.mem_filter.mpr ⟨List.mem_map_of_mem hq, by rw [emR_row, hq2]; rfl⟩
      cases hf : ((rows.map (flp k nm)).map rowR).filter emR with
      | nil => rw [hf] at h1; cases h1
      | cons x xs => rw [hf] at hb; cases hb
    have T2 := flp_tab T hnc h0
    have hc2 : coreD cs (rows.map (flp k nm)) (coreV w K N) = false := by rw [coreD_core]; exact flp_core T hC hk hnm
    have hB : EvB rFc (eR c w n cs rows K N K' N' s7 (.fz (.str k)) (.fz (.str nm)) (.fz (.list ((rows.map (flp k nm)).map rowR))) s11 s12 s13) (!decide (coreD cs (rows.map (flp k nm)) (coreV w K N) = false)) :=
      isn_core T2 (b := false) (ev_tup (ds := [.tuple (cs.map .str), .tuple ((rows.map (flp k nm)).map rowR)]) (evs_cons (ev_opV (a := tabD cs rows) (b := .int 0) (ev_var rfl).toD ev_c.toD rfl).toD (evs_cons (ev_cbV (evs_cons (ev_var (d := .list ((rows.map (flp k nm)).map rowR)) rfl).toD evs_nil) dTup_l).toD evs_nil)) (by simp)).toD (ev_var (d := coreV w K N) rfl).toD (core_smv T hC).2.2.1 (by omega)
    rw [hc2] at hB
    refine wM.mono (Q := fun b e2 => e2 = _ ∧ b = _) hB ?_
    rintro b e2 ⟨rfl, rfl⟩
    rw [if_neg (by simp), w_skip]
    exact h _
end
theorem law_right_spec {c : D} (hc : CupOk c) : wF f_law_right [.bo c] fun x o => x = .v (.bool true) ∧ ∃ c', CupOk c' ∧ o = [.bo c'] := by
  refine w_def rfl ?_
  rw [pR_eq]
  show wS _ (.bo c :: rR .un .un .un .un .un .un .un .un .un .un .un .un .un) _
  refine pR0_spec hc fun c w hc hw => pR1_spec hw (pR2_spec hc hw fun c n hc hok => ?_)
  refine sq_getC hc (EC.mono (ec_call (ecl_cons (ec_var (d := .str w) rfl (ecl_cons (ec_var (d := .int (n : Nat)) rfl (ecl_nil ⟨_, .cons vst_v (.cons vst_v .nil), planted_drw hok⟩)))))) ?_)
  rintro x ⟨cs, rows, K, N, rfl, T, hC, hKl⟩
  refine ⟨_, _, vst_v, fun _ => rfl, fun c hc => ?_⟩
  refine sq_setC hc (EC.mono (ec_call (ecl_cons (ec_var (d := coreV w K N) rfl (ecl_nil ⟨_, .cons vst_v .nil, turned_drw hC⟩)))) ?_)
  rintro x ⟨K', N', rfl, hC'⟩
  refine ⟨_, _, .inl ⟨_, rfl, rfl⟩, fun _ => rfl, fun c hc => ?_⟩
  show wS _ (eR c w n cs rows K N K' N' .un .un .un .un .un .un .un) _
  have C := core_get hC
  refine pR5_spec T hC hC' (pR6_spec hc T hC hC' fun c s7 hc h7 => pR7_spec hc T hC h7 fun c k nm hc hk hnm => pR8_spec (pR9_spec T ?_ (T.cok nm (C.nin nm hnm)).2 fun s11 s12 s13 h11 h12 h13 => pR10_spec T hC hk hnm h11 h12 fun s10 => ?_))
  · obtain ⟨q, hq, rfl⟩ := List.mem_map.mp (C.kin k hk)
    exact (T.kok q hq).2
  · refine sq_ret ev_c ⟨rfl, c, hc, rfl⟩
end L_k31
set_option Elab.async false
set_option linter.all false
set_option maxRecDepth 100000
set_option maxHeartbeats 1000000
namespace L_k31
open PySem PySem.Spec PyProof.Rows L2 Fw
def wm0 : Mo (List Vx) := (mCons (mTup (mCons (mC (.str "ring")) (mCons (mC (.int 3)) (mCons (mTup (mCons (mTup (mCons (mC (.int 0)) (mCons (mC (.int 1)) mNil))) (mCons (mTup (mCons (mC (.int 1)) (mCons (mC (.int 2)) mNil))) (mCons (mTup (mCons (mC (.int 0)) (mCons (mC (.int 2)) mNil))) mNil)))) mNil)))) (mCons (mTup (mCons (mC (.str "ring")) (mCons (mC (.int 4)) (mCons (mTup (mCons (mTup (mCons (mC (.int 0)) (mCons (mC (.int 1)) mNil))) (mCons (mTup (mCons (mC (.int 1)) (mCons (mC (.int 2)) mNil))) (mCons (mTup (mCons (mC (.int 2)) (mCons (mC (.int 3)) mNil))) (mCons (mTup (mCons (mC (.int 0)) (mCons (mC (.int 3)) mNil))) mNil))))) mNil)))) (mCons (mTup (mCons (mC (.str "fork")) (mCons (mC (.int 3)) (mCons (mTup (mCons (mTup (mCons (mC (.int 0)) (mCons (mC (.int 1)) mNil))) (mCons (mTup (mCons (mC (.int 1)) (mCons (mC (.int 2)) mNil))) (mCons (mTup (mCons (mC (.int 1)) (mCons (mC (.int 3)) mNil))) mNil)))) mNil)))) mNil)))
def wr0 : List D := [.tuple [.str "ring", .int 3, .tuple [.tuple [.int 0, .int 1], .tuple [.int 1, .int 2], .tuple [.int 0, .int 2]]], .tuple [.str "ring", .int 4, .tuple [.tuple [.int 0, .int 1], .tuple [.int 1, .int 2], .tuple [.int 2, .int 3], .tuple [.int 0, .int 3]]], .tuple [.str "fork", .int 3, .tuple [.tuple [.int 0, .int 1], .tuple [.int 1, .int 2], .tuple [.int 1, .int 3]]]]
def pW0 : So := (sSet 1 (mLst wm0))
def wm1 : Mo (List Vx) := (mCons (mTup (mCons (mC (.str "arch")) (mCons (mC (.int 4)) (mCons (mTup (mCons (mTup (mCons (mC (.int 0)) (mCons (mC (.int 1)) mNil))) (mCons (mTup (mCons (mC (.int 1)) (mCons (mC (.int 2)) mNil))) (mCons (mTup (mCons (mC (.int 0)) (mCons (mC (.int 1)) (mCons (mC (.int 3)) mNil)))) (mCons (mTup (mCons (mC (.int 1)) (mCons (mC (.int 2)) (mCons (mC (.int 3)) mNil)))) mNil))))) mNil)))) (mCons (mTup (mCons (mC (.str "arch")) (mCons (mC (.int 5)) (mCons (mTup (mCons (mTup (mCons (mC (.int 0)) (mCons (mC (.int 1)) mNil))) (mCons (mTup (mCons (mC (.int 1)) (mCons (mC (.int 2)) mNil))) (mCons (mTup (mCons (mC (.int 2)) (mCons (mC (.int 3)) mNil))) (mCons (mTup (mCons (mC (.int 0)) (mCons (mC (.int 1)) (mCons (mC (.int 2)) (mCons (mC (.int 4)) mNil))))) (mCons (mTup (mCons (mC (.int 1)) (mCons (mC (.int 2)) (mCons (mC (.int 3)) (mCons (mC (.int 4)) mNil))))) mNil)))))) mNil)))) mNil))
def wr1 : List D := [.tuple [.str "arch", .int 4, .tuple [.tuple [.int 0, .int 1], .tuple [.int 1, .int 2], .tuple [.int 0, .int 1, .int 3], .tuple [.int 1, .int 2, .int 3]]], .tuple [.str "arch", .int 5, .tuple [.tuple [.int 0, .int 1], .tuple [.int 1, .int 2], .tuple [.int 2, .int 3], .tuple [.int 0, .int 1, .int 2, .int 4], .tuple [.int 1, .int 2, .int 3, .int 4]]]]
def pW1 : So := (sSet 1 (mOp dAdd (mVar 1) (mLst wm1)))
def wm2 : Mo (List Vx) := (mCons (mTup (mCons (mC (.str "fork")) (mCons (mC (.int 4)) (mCons (mTup (mCons (mTup (mCons (mC (.int 0)) (mCons (mC (.int 1)) mNil))) (mCons (mTup (mCons (mC (.int 1)) (mCons (mC (.int 2)) mNil))) (mCons (mTup (mCons (mC (.int 2)) (mCons (mC (.int 3)) mNil))) (mCons (mTup (mCons (mC (.int 1)) (mCons (mC (.int 2)) (mCons (mC (.int 4)) mNil)))) mNil))))) mNil)))) (mCons (mTup (mCons (mC (.str "comb")) (mCons (mC (.int 4)) (mCons (mTup (mCons (mTup (mCons (mC (.int 0)) (mCons (mC (.int 1)) mNil))) (mCons (mTup (mCons (mC (.int 2)) (mCons (mC (.int 3)) mNil))) (mCons (mTup (mCons (mC (.int 4)) (mCons (mC (.int 5)) mNil))) (mCons (mTup (mCons (mC (.int 0)) (mCons (mC (.int 2)) (mCons (mC (.int 4)) mNil)))) mNil))))) mNil)))) mNil))
def wr2 : List D := [.tuple [.str "fork", .int 4, .tuple [.tuple [.int 0, .int 1], .tuple [.int 1, .int 2], .tuple [.int 2, .int 3], .tuple [.int 1, .int 2, .int 4]]], .tuple [.str "comb", .int 4, .tuple [.tuple [.int 0, .int 1], .tuple [.int 2, .int 3], .tuple [.int 4, .int 5], .tuple [.int 0, .int 2, .int 4]]]]
def pW2 : So := (sSet 1 (mOp dAdd (mVar 1) (mLst wm2)))
def wm3 : Mo (List Vx) := (mCons (mTup (mCons (mC (.str "step")) (mCons (mC (.int 4)) (mCons (mTup (mCons (mTup (mCons (mC (.int 0)) (mCons (mC (.int 1)) mNil))) (mCons (mTup (mCons (mC (.int 2)) (mCons (mC (.int 3)) mNil))) (mCons (mTup (mCons (mC (.int 0)) (mCons (mC (.int 1)) (mCons (mC (.int 2)) (mCons (mC (.int 3)) mNil))))) (mCons (mTup (mCons (mC (.int 0)) (mCons (mC (.int 2)) (mCons (mC (.int 4)) mNil)))) mNil))))) mNil)))) mNil)
def wr3 : List D := [.tuple [.str "step", .int 4, .tuple [.tuple [.int 0, .int 1], .tuple [.int 2, .int 3], .tuple [.int 0, .int 1, .int 2, .int 3], .tuple [.int 0, .int 2, .int 4]]]]
def pW3 : So := (sSet 1 (mOp dAdd (mVar 1) (mLst wm3)))
def pW4 : So := (sFor (gTpN 2 (gCn (gNm 2) (gCn (gNm 3) gNl))) (mIt (mOp dAdd (mLc [4] (gNm 4) (mRng1 (mCons (mC (.int 3)) mNil)) (mRet true) (mTup (mCons (mCall [true] f_law_some (mCons (mVar 0) (mCons (mLst (mCons (mC (.str "ring")) (mCons (mC (.str "arch")) (mCons (mC (.str "fork")) mNil)))) mNil))) (mCons (mOp dAdd (mC (.int 4)) (mCall [true] f_law_roll (mCons (mVar 0) (mCons (mC (.int 17)) mNil)))) mNil)))) (mLst (mCons (mTup (mCons (mC (.str "ring")) (mCons (mC (.int 20)) mNil))) mNil)))) (sSeq (sDrop (mMut "list" 1 fAppend (mCons (mTup (mCons (mVar 2) (mCons (mVar 3) (mCons (mCb dTup (mCons (mOp dIx (mCall [] f_law_rows (mCons (mVar 2) (mCons (mVar 3) mNil))) (mC (.int 0))) mNil)) mNil)))) mNil))) sSkip))
def pW5 : So := (sRet (mOp (opB dEq) (mLc [2, 3, 5] (gTpN 3 (gCn (gNm 2) (gCn (gNm 3) (gCn (gNm 5) gNl)))) (mIt (mVar 1)) (mNot (mTst (mCall [] (f_law_same 6) (mCons (mCall [] f_pattern (mCons (mVar 2) (mCons (mVar 3) mNil))) (mCons (mVar 5) mNil))))) (mC (.int 1))) (mLst mNil)))
theorem pW_eq : m_law_written_right = sSeq pW0 (sSeq pW1 (sSeq pW2 (sSeq pW3 (sSeq pW4 (sSeq pW5 sSkip))))) := rfl

/-! alike -/
theorem same_int {n : Nat} {i : Int} : wF (f_law_same (n + 1)) [.fz (.int i), .fz (.int i)] fun x o => x = .v (.bool true) ∧ o = [.un, .un] := by
  refine w_def rfl ?_
  simp [m_law_same, edF]
theorem rngLen {a s : Sl} {ds : List D} {Q : List D → En → Prop} (hl : ds.length < 2 ^ 62) (q : Q (rngD 0 ds.length) [a, .fz (.tuple ds), s]) : wM (mRng1 (mCons (mCb dLen (mCons (mVar 1) mNil)) mNil)) [a, .fz (.tuple ds), s] Q := by
  unfold mRng1
  rw [w_itLen, itR1_nat hl, wIt_some]
  exact q
theorem same_tup {n : Nat} {ds : List D} (hl : ds.length ≤ 1000) (hp : ∀ d, d ∈ ds → wF (f_law_same n) [.fz d, .fz d] fun x o => x = .v (.bool true) ∧ o = [.un, .un]) : wF (f_law_same (n + 1)) [.fz (.tuple ds), .fz (.tuple ds)] fun x o => x = .v (.bool true) ∧ o = [.un, .un] := by
  refine w_def rfl ?_
  show wS (m_law_same (fun _ => f_law_same n) n) [.fz (.tuple ds), .fz (.tuple ds), .un] _
  generalize f_law_same n = f at hp ⊢
  have v0 : ∀ s, EvD (mVar 0) [.fz (.tuple ds), .fz (.tuple ds), s] (.tuple ds) := fun s => (ev_var rfl).toD
  have v1 : ∀ s, EvD (mVar 1) [.fz (.tuple ds), .fz (.tuple ds), s] (.tuple ds) := fun s => (ev_var rfl).toD
  refine sq_if (b := true) (eb_tst (ev_unV (v1 _) isi_tuple_t).toD) (fun _ => ?_) (fun h => by cases h)
  refine sq_asc (sq_bad (b := false) (eb_orF (eb_not (eb_tst (a := true) (ev_unV (v0 _) isi_tuple_t).toD)) (eb_cmp (ev_cbV (evs_cons (v0 _) evs_nil) dLen_t).toD (ev_cbV (evs_cons (v1 _) evs_nil) dLen_t).toD ?_)) (fun h => by cases h) fun _ => sq_asc (sq_ret (ev_cbV (evs_cons (EvN.toD (d := .list ((rngD 0 ds.length).map fun _ => .bool true)) ?_) evs_nil) ?_) ⟨rfl, rfl⟩))
  · rw [dNe_i]
    simp
  · refine lc_mp (rngLen (by omega) ?_)
    refine ⟨rfl, by rw [rng_len]; omega, fun _ => .bool true, fun d hd => ?_, rfl, rfl⟩
    obtain ⟨i, hi⟩ := List.getElem?_of_mem hd
    obtain ⟨rfl, hlt⟩ := rng0_get hi
    have e1 : dIx (.tuple ds) (.int (i : Nat)) = some (.v ds[i]) := by
      rw [dIx_t, Fw.atI_nat, List.getElem?_eq_getElem hlt]
      rfl
    refine ⟨[.fz (.tuple ds), .fz (.tuple ds), .fz (.int (i : Nat))], rfl, ?_⟩
    rw [w_ret]
    refine ⟨rfl, wM.mono (Q := fun x e2 => e2 = _ ∧ x = _) (ev_calls (evs_cons (ev_opV (v0 _) (ev_var (d := .int (i : Nat)) rfl).toD e1).toD (evs_cons (ev_opV (v1 _) (ev_var (d := .int (i : Nat)) rfl).toD e1).toD evs_nil)) (hp ds[i] (List.getElem_mem hlt))) ?_⟩
    rintro x e2 ⟨rfl, rfl⟩
    rw [w_val_v]
    exact ⟨rfl, rfl⟩
  · have hb : boolsD ((rngD 0 ds.length).map fun _ => PyData.bool true) = some ((rngD 0 ds.length).map fun _ => true) := boolsD_map (f := fun _ => true)
    rw [dAll_l, hb]
    simp
theorem same_due {w : Str} {n : Nat} (hok : okW w n = true) : wF (f_law_same 6) [.fz (.tuple ((due w n).map rdD)), .fz (.tuple ((due w n).map rdD))] fun x o => x = .v (.bool true) ∧ o = [.un, .un] := by
  obtain ⟨d1, d2, d3, d4⟩ := due_ok hok
  have hn := (okW_get hok).2.2.2
  refine same_tup (by rw [List.length_map]; omega) fun d hd => ?_
  obtain ⟨r, hr, rfl⟩ := List.mem_map.mp hd
  refine same_tup (by rw [List.length_map]; have := (d2 r hr).1; omega) fun d hd => ?_
  obtain ⟨i, hi, rfl⟩ := List.mem_map.mp hd
  exact same_int
theorem fits_whole_spec {i a b : Int} : wF f_fits_whole [.fz (.int i), .fz (.int a), .fz (.int b)] fun x o => x = .v (.bool (decide (a ≤ i) && decide (i ≤ b))) ∧ o = [.un, .un, .un] := by
  refine w_def rfl ?_
  show wS m_fits_whole [.fz (.int i), .fz (.int a), .fz (.int b)] _
  refine sq_ret (ev_andVT (eb_tst (ev_unV (ev_var (d := .int i) rfl).toD isi_int_i).toD) (ev_andVT (eb_tst (a := !false) (ev_notV (eb_tst (ev_unV (ev_var (d := .int i) rfl).toD isi_bool_i).toD)).toD) (ev_chainI (ev_var (d := .int a) rfl).toD (ev_var (d := .int i) rfl).toD (ev_var (d := .int b) rfl).toD))) ⟨rfl, rfl⟩
theorem pattern_spec {w : Str} {n : Nat} (hok : okW w n = true) : wF f_pattern [.fz (.str w), .fz (.int (n : Nat))] fun x o => x = .v (.tuple ((due w n).map rdD)) ∧ o = [.un, .un] := by
  refine w_def rfl ?_
  show wS m_pattern [.fz (.str w), .fz (.int (n : Nat))] _
  obtain ⟨hw, h1, h2, h3⟩ := okW_get hok
  have v0 : EvD (mVar 0) [.fz (.str w), .fz (.int (n : Nat))] (.str w) := (ev_var rfl).toD
  have v1 : EvD (mVar 1) [.fz (.str w), .fz (.int (n : Nat))] (.int (n : Nat)) := (ev_var rfl).toD
  refine sq_if (b := false) (eb_orF (eb_not (eb_tst (a := true) (ev_unV v0 isi_str_s).toD)) (eb_tst (a := false) (ev_unV v0 ?_).toD)) (fun h => by cases h) fun _ => sq_skip ?_
  · rw [in_least, decide_eq_true hw]
    rfl
  refine sq_if (b := false) (eb_not (eb_tst (a := true) ?_)) (fun h => by cases h) fun _ => sq_skip (sq_ret (ev_cbV (evs_cons (ev_opV (ev_calls (evs_cons v0 (evs_cons v1 evs_nil)) (rows_by_spec hok)).toD ev_c.toD (show dIx _ (.int 0) = _ from rfl)).toD evs_nil) dTup_l) ⟨rfl, rfl⟩)
  have hb : (decide ((lo w : Nat) ≤ (n : Int)) && decide ((n : Int) ≤ (hi w : Nat))) = true := by simp [h1, h2]
  rw [← hb]
  refine (ev_calls (evs_cons v1 (evs_cons (ev_unV (z := .int (lo w : Nat)) v0 ?_).toD (evs_cons (ev_unV (z := .int (hi w : Nat)) v0 ?_).toD evs_nil))) fits_whole_spec).toD
  · show (tbGet tb_LEAST w).map (fun v => Vx.v (kD v)) = _
    rw [tb_least w hw]
    rfl
  · show (tbGet tb_MOST w).map (fun v => Vx.v (kD v)) = _
    rw [tb_most w hw]
    rfl
/-! the written rows -/
def RowOk (d : D) : Prop := ∃ (w : Str) (n : Nat), okW w n = true ∧ d = .tuple [.str w, .int (n : Nat), .tuple ((due w n).map rdD)]
def chkRow : D → Bool
  | .tuple [.str w, .int (.ofNat n), .tuple ds] => okW w n && isRows ds (due w n)
  | _ => false
theorem chkRow_ok {d : D} (h : chkRow d = true) : RowOk d := by
  unfold chkRow at h
  split at h
  · rename_i w n ds
    rw [Bool.and_eq_true] at h
    exact ⟨w, n, h.1, by rw [isRows_eq h.2]; rfl⟩
  · cases h
theorem wr_ok : (wr0 ++ (wr1 ++ (wr2 ++ wr3))).all chkRow = true := by decide +kernel
theorem wr_row {d : D} (h : d ∈ wr0 ++ (wr1 ++ (wr2 ++ wr3))) : RowOk d := chkRow_ok (List.all_eq_true.mp wr_ok d h)
section
variable {e : En}
theorem wm0_ev : EvL wm0 e wr0 := by
  unfold wm0 wr0
  repeat first | exact evs_nil | exact ev_c.toD | apply evs_cons | (refine (ev_tup ?_ (by decide)).toD)
theorem wm1_ev : EvL wm1 e wr1 := by
  unfold wm1 wr1
  repeat first | exact evs_nil | exact ev_c.toD | apply evs_cons | (refine (ev_tup ?_ (by decide)).toD)
theorem wm2_ev : EvL wm2 e wr2 := by
  unfold wm2 wr2
  repeat first | exact evs_nil | exact ev_c.toD | apply evs_cons | (refine (ev_tup ?_ (by decide)).toD)
theorem wm3_ev : EvL wm3 e wr3 := by
  unfold wm3 wr3
  repeat first | exact evs_nil | exact ev_c.toD | apply evs_cons | (refine (ev_tup ?_ (by decide)).toD)
end
def RI (y : D) : Prop := ∃ (w : Str) (n : Nat), okW w n = true ∧ y = .tuple [.str w, .int (n : Nat)]
def W3 : List Str := ["ring", "arch", "fork"]
theorem w3_ok : ∀ w ∈ W3, w ∈ W5 ∧ lo w ≤ 4 ∧ hi w = 20 := by decide +kernel
theorem okW_3 {w : Str} (h : w ∈ W3) {n : Nat} (h1 : 4 ≤ n) (h2 : n ≤ 20) : okW w n = true := by
  obtain ⟨a, b, c⟩ := w3_ok w h
  unfold okW
  rw [decide_eq_true a, decide_eq_true (show lo w ≤ n by omega), decide_eq_true (show n ≤ hi w by omega)]
  rfl
section
variable {c : D} {L : List D} {s2 s3 : Sl} {Q : Ed} {rest : So}
theorem pW_items : EC (mOp dAdd (mLc [4] (gNm 4) (mRng1 (mCons (mC (.int 3)) mNil)) (mRet true) (mTup (mCons (mCall [true] f_law_some (mCons (mVar 0) (mCons (mLst (mCons (mC (.str "ring")) (mCons (mC (.str "arch")) (mCons (mC (.str "fork")) mNil)))) mNil))) (mCons (mOp dAdd (mC (.int 4)) (mCall [true] f_law_roll (mCons (mVar 0) (mCons (mC (.int 17)) mNil)))) mNil)))) (mLst (mCons (mTup (mCons (mC (.str "ring")) (mCons (mC (.int 20)) mNil))) mNil))) [.ow (.list L), .un, .un, .un, .un] fun x => ∃ ys : List D, x = .nw (.list ys) ∧ ys.length = 4 ∧ ∀ y, y ∈ ys → RI y := by
  refine ec_op (ec_lcd (eci_rng (ec_c ⟨3, 3, vst_v, rfl, by omega, ?_⟩)))
  refine ⟨by rw [rng_len]; omega, fun _ => rfl, fun _ y => RI y, _, fun _ => rfl, fun _ _ => rfl, fun i d hd => ⟨[.ow (.list L), .un, .un, .fz d, .un], fun _ => rfl, fun _ => rfl, ?_⟩, fun ys hyl hy => ⟨.list ys, vst_nw, ?_⟩⟩
  · refine ec_tup (ecl_cons (EC.mono (ec_call (ecl_cons (ec_n (d := .list (W3.map .str)) (fun c => ev_lst (evs_cons ev_c.toD (evs_cons ev_c.toD (evs_cons ev_c.toD evs_nil))) (by decide)) (ecl_nil ⟨_, .cons vst_nw .nil, some_drw some_ok (.inl rfl) (by decide) (by decide)⟩)))) ?_))
    rintro x ⟨y, rfl, hy⟩
    obtain ⟨w, hw, rfl⟩ := List.mem_map.mp hy
    refine ecl_cons (ec_op (ec_c ⟨_, vst_v, EC.mono (ec_call (ecl_cons (ec_c (ecl_nil ⟨_, .cons vst_v .nil, roll_drw roll_ok (by omega) (by omega)⟩)))) ?_⟩))
    rintro x ⟨z, rfl, g0, g1⟩
    refine ⟨_, vst_v, _, dAdd_i, ecl_nil ⟨_, .cons vst_v (.cons vst_v .nil), by simp, _, vst_v, w, (4 + z).toNat, okW_3 hw (by omega) (by omega), ?_⟩⟩
    congr 3
    congr 1
    omega
  · rw [rng_len] at hyl
    refine ec_n (d := .list [.tuple [.str "ring", .int 20]]) (fun c => ev_lst (evs_cons (ev_tup (evs_cons ev_c.toD (evs_cons ev_c.toD evs_nil)) (by simp)).toD evs_nil) (by simp)) ⟨_, vst_nw, _, by rw [dAdd_l, if_pos (by rw [sizeLine_eq]; simp; omega)], _, rfl, by simp [hyl], fun y hm => ?_⟩
    rcases List.mem_append.mp hm with hm | hm
    · obtain ⟨i, hi⟩ := List.getElem?_of_mem hm
      exact hy i y hi
    · rw [List.mem_singleton.mp hm]
      exact ⟨"ring", 20, by decide +kernel, rfl⟩
def wBody : So := (sSeq (sDrop (mMut "list" 1 fAppend (mCons (mTup (mCons (mVar 2) (mCons (mVar 3) (mCons (mCb dTup (mCons (mOp dIx (mCall [] f_law_rows (mCons (mVar 2) (mCons (mVar 3) mNil))) (mC (.int 0))) mNil)) mNil)))) mNil))) sSkip)
theorem pW4_spec (hc : CupOk c) (hL : ∀ d, d ∈ L → RowOk d) (hl : L.length ≤ 8) (h : ∀ c L s2 s3, CupOk c → (∀ d, d ∈ L → RowOk d) → L.length ≤ 12 → FzUn s2 → FzUn s3 → wS rest [.bo c, .ow (.list L), s2, s3, .un, .un] Q) : wS (sSeq pW4 rest) [.bo c, .ow (.list L), .un, .un, .un, .un] Q := by
  rw [w_seq]
  unfold pW4
  rw [w_for, w_it]
  refine (pW_items c hc).mono ?_
  rintro x e1 ⟨c1, hc1, rfl, ys, rfl, hyl, hy⟩
  rw [w_val_nw, itD_list, wIt_some]
  refine for_inv (fun i e => ∃ L s2 s3, e = [.bo c1, .ow (.list L), s2, s3, .un, .un] ∧ (∀ d, d ∈ L → RowOk d) ∧ L.length ≤ 8 + i ∧ FzUn s2 ∧ FzUn s3) ⟨L, _, _, rfl, hL, by omega, .inl rfl, .inl rfl⟩ ?_ ?_
  · rintro i d e hd ⟨L, s2, s3, rfl, hL, hl, h2, h3⟩
    obtain ⟨w, n, hok, rfl⟩ := hy d (List.mem_of_getElem? hd)
    have hi : i < ys.length := (List.getElem?_eq_some_iff.mp hd).1
    refine ⟨[.bo c1, .ow (.list L), .fz (.str w), .fz (.int (n : Nat)), .un, .un], ?_, ?_⟩
    · rcases h2 with rfl | ⟨d, rfl⟩ <;> rcases h3 with rfl | ⟨d, rfl⟩ <;> rfl
    · have v2 : EvD (mVar 2) [.bo c1, .ow (.list L), .fz (.str w), .fz (.int (n : Nat)), .un, .un] (.str w) := (ev_var rfl).toD
      have v3 : EvD (mVar 3) [.bo c1, .ow (.list L), .fz (.str w), .fz (.int (n : Nat)), .un, .un] (.int (n : Nat)) := (ev_var rfl).toD
      refine sq_app (xs := L) (d := .tuple [.str w, .int (n : Nat), .tuple ((due w n).map rdD)]) rfl (ev_tup (evs_cons v2 (evs_cons v3 (evs_cons (ev_cbV (evs_cons (ev_opV (ev_calls (evs_cons v2 (evs_cons v3 evs_nil)) (law_rows_spec hok)).toD ev_c.toD (show dIx _ (.int 0) = _ from rfl)).toD evs_nil) dTup_l).toD evs_nil))) (by simp)).toD (by omega) ?_
      rw [w_skip]
      refine ⟨_, _, _, rfl, fun d hd => ?_, by simp; omega, .inr ⟨_, rfl⟩, .inr ⟨_, rfl⟩⟩
      rcases List.mem_append.mp hd with hd | hd
      · exact hL d hd
      · rw [List.mem_singleton.mp hd]
        exact ⟨w, n, hok, rfl⟩
  · rintro e ⟨L, s2, s3, rfl, hL, hl, h2, h3⟩
    exact h c1 L s2 s3 hc1 hL (by omega) h2 h3
theorem pW5_spec (hL : ∀ d, d ∈ L → RowOk d) (hl : L.length ≤ 12) (h2 : FzUn s2) (h3 : FzUn s3) (h : Q.rt (.v (.bool true)) [.bo c, .fz (.list L), s2, s3, .un, .un]) : wS (sSeq pW5 rest) [.bo c, .ow (.list L), s2, s3, .un, .un] Q := by
  rw [w_seq]
  unfold pW5
  rw [w_retS]
  refine (flt_tst (e1 := [.bo c, .fz (.list L), s2, s3, .un, .un]) (ds := L) (p := fun _ => false) (it_ow (d := .list L) rfl itD_list rfl ⟨rfl, rfl⟩) ?_ (by omega) ?_ fun d hd => ?_).mono ?_
  · rcases h2 with rfl | ⟨d, rfl⟩ <;> rcases h3 with rfl | ⟨d, rfl⟩ <;> rfl
  · rcases h2 with rfl | ⟨d, rfl⟩ <;> rcases h3 with rfl | ⟨d, rfl⟩ <;> rfl
  · obtain ⟨w, n, hok, rfl⟩ := hL d hd
    refine ⟨[.bo c, .fz (.list L), .fz (.str w), .fz (.int (n : Nat)), .un, .fz (.tuple ((due w n).map rdD))], rfl, ?_, rfl⟩
    exact eb_not (a := true) (eb_tst (ev_calls (evs_cons (ev_calls (evs_cons (ev_var (d := .str w) rfl).toD (evs_cons (ev_var (d := .int (n : Nat)) rfl).toD evs_nil)) (pattern_spec hok)).toD (evs_cons (ev_var (d := .tuple ((due w n).map rdD)) rfl).toD evs_nil)) (same_due hok)).toD)
  · rintro x e2 ⟨rfl, rfl⟩
    have : (L.filter fun _ => false).isEmpty = true := by simp
    rw [this]
    exact h
end
theorem law_written_right_spec {c : D} (hc : CupOk c) : wF f_law_written_right [.bo c] fun x o => x = .v (.bool true) ∧ ∃ c', CupOk c' ∧ o = [.bo c'] := by
  refine w_def rfl ?_
  rw [pW_eq]
  show wS _ [.bo c, .un, .un, .un, .un, .un] _
  refine sq_setN (ev_lst wm0_ev (by decide)) rfl ?_
  refine sq_setN (ev_addL (ev_ow (d := .list wr0) rfl) (ev_lst wm1_ev (by decide)).toD.rd (by decide)) rfl ?_
  refine sq_setN (ev_addL (ev_ow (d := .list (wr0 ++ wr1)) rfl) (ev_lst wm2_ev (by decide)).toD.rd (by decide)) rfl ?_
  refine sq_setN (ev_addL (ev_ow (d := .list ((wr0 ++ wr1) ++ wr2)) rfl) (ev_lst wm3_ev (by decide)).toD.rd (by decide)) rfl ?_
  refine pW4_spec (L := ((wr0 ++ wr1) ++ wr2) ++ wr3) hc (fun d hd => wr_row (by simpa only [List.append_assoc] using hd)) (by decide) fun c L s2 s3 hc hL hl h2 h3 => pW5_spec hL hl h2 h3 ⟨rfl, c, hc, rfl⟩
end L_k31
set_option Elab.async false
set_option linter.all false
set_option maxRecDepth 100000
set_option maxHeartbeats 2000000
namespace L_k31
open PySem PySem.Spec PyProof.Rows L2 Fw
theorem cup_ok {ns : List Int} (hl : ns.length ≤ 63) : wF f_law_cup [.fz (scrD ns)] fun x o => (∃ d, x = .nw d ∧ CupOk d) ∧ o = [.un] :=
  cup_gen (c1 := 73) (c2 := 313) (c3 := 4027) (c4 := 2077502087) (c5 := 181) (by omega) (by omega) (by omega) (by omega) hl
def turnB : So := (sSeq (sIf (mNot (mTst (mCall [true] f_law_right (mCons (mVar 1) mNil)))) (sSeq (sRet (mC (.bool false))) sSkip) sSkip) sSkip)
theorem law_eq : m_law = sSeq (sSet 1 (mCall [] f_law_cup (mCons (mVar 0) mNil))) (sSeq (sFor (gNm 2) (mRng1 (mCons (mC (.int 5)) mNil)) turnB) (sSeq (sRet (mCall [true] f_law_written_right (mCons (mVar 1) mNil))) sSkip)) := rfl
theorem turn_spec {s c : D} (hc : CupOk c) {s2 : Sl} {Q : Ed} (h : ∀ c', CupOk c' → Q.nx [.fz s, .ow c', s2]) : wS turnB [.fz s, .ow c, s2] Q := by
  unfold turnB
  simp
  refine (law_right_spec hc).mono ?_
  rintro x o ⟨rfl, c3, hc3, rfl⟩
  simp
  exact h c3 hc3
theorem law_spec {ns : List Int} (hl : ns.length ≤ 63) : wF f_law [.fz (scrD ns)] fun x o => x = .v (.bool true) := by
  show wF (mDef 1 3 m_law) _ _
  rw [law_eq]
  refine w_def rfl ?_
  generalize hs : scrD ns = s
  simp [edF]
  rw [← hs]
  refine (cup_ok hl).mono ?_
  rintro x o ⟨⟨c, rfl, hc⟩, rfl⟩
  rw [hs]
  simp
  rw [w_for, w_rngC (z := 5) (n := 5) rfl (by omega)]
  refine for_inv (fun i e => ∃ (c' : D) (s2 : Sl), CupOk c' ∧ FzUn s2 ∧ e = [.fz s, .ow c', s2]) ⟨c, .un, hc, .inl rfl, rfl⟩ ?_ ?_
  · rintro i d e hd ⟨c', s2, hc', h2, rfl⟩
    clear hd
    refine ⟨[.fz s, .ow c', .fz d], ?_, ?_⟩
    · rw [gNm_s, setSl_p]
      exact fzUn_set h2
    · exact turn_spec hc' fun c2 hc2 => ⟨c2, _, hc2, .inr ⟨_, rfl⟩, rfl⟩
  · rintro e ⟨c', s2, hc', h2, rfl⟩
    simp
    refine (law_written_right_spec hc').mono ?_
    rintro x o ⟨rfl, c2, hc2, rfl⟩
    simp
theorem law_true (ns : List Int) (hl : ns.length ≤ 63) (hb : ∀ z ∈ ns, PySem.Builtin.Int.intBits z ≤ 1048576) : SaysTrue f_law ns := by
  obtain ⟨x, o, h1, h2⟩ := (law_spec hl).get
  subst h2
  exact ⟨o, h1⟩
end L_k31
set_option Elab.async false
set_option linter.all false
set_option maxRecDepth 100000
set_option maxHeartbeats 0
namespace L_k31
open PySem PySem.Spec PyProof.Rows L2 Fw
def dd_29 : He.DefD := ⟨("_law_cup", none), "_law_cup", "_law_cup", defArgs (top 29), defBody (top 29), defScope (top 29), [], []⟩
def dd_35 : He.DefD := ⟨("_law_rows", none), "_law_rows", "_law_rows", defArgs (top 35), defBody (top 35), defScope (top 35), [], []⟩
def dd_36 : He.DefD := ⟨("_law_is_core", none), "_law_is_core", "_law_is_core", defArgs (top 36), defBody (top 36), defScope (top 36), [], []⟩
def dd_38 : He.DefD := ⟨("_law_judge", none), "_law_judge", "_law_judge", defArgs (top 38), defBody (top 38), defScope (top 38), [], []⟩
def dd_30 : He.DefD := ⟨("_law_roll", none), "_law_roll", "_law_roll", defArgs (top 30), defBody (top 30), defScope (top 30), [], []⟩
def dd_31 : He.DefD := ⟨("_law_some", none), "_law_some", "_law_some", defArgs (top 31), defBody (top 31), defScope (top 31), [], []⟩
def dd_40 : He.DefD := ⟨("_law_near", none), "_law_near", "_law_near", defArgs (top 40), defBody (top 40), defScope (top 40), [], []⟩
def dd_34 : He.DefD := ⟨("_law_mixed", none), "_law_mixed", "_law_mixed", defArgs (top 34), defBody (top 34), defScope (top 34), [], []⟩
def dd_33 : He.DefD := ⟨("_law_part", none), "_law_part", "_law_part", defArgs (top 33), defBody (top 33), defScope (top 33), [], []⟩
def dd_37 : He.DefD := ⟨("_law_planted", none), "_law_planted", "_law_planted", defArgs (top 37), defBody (top 37), defScope (top 37), [], []⟩
def dd_32 : He.DefD := ⟨("_law_same", none), "_law_same", "_law_same", defArgs (top 32), defBody (top 32), defScope (top 32), [], []⟩
def dd_39 : He.DefD := ⟨("_law_turned", none), "_law_turned", "_law_turned", defArgs (top 39), defBody (top 39), defScope (top 39), [], []⟩
def dd_24 : He.DefD := ⟨("are_unlike", none), "are_unlike", "are_unlike", defArgs (top 24), defBody (top 24), defScope (top 24), [], []⟩
def dd_11 : He.DefD := ⟨("is_tuple_of", none), "is_tuple_of", "is_tuple_of", defArgs (top 11), defBody (top 11), defScope (top 11), [], []⟩
def dd_22 : He.DefD := ⟨("pairs_to", none), "pairs_to", "pairs_to", defArgs (top 22), defBody (top 22), defScope (top 22), [], []⟩
def dd_23 : He.DefD := ⟨("rows_by", none), "rows_by", "rows_by", defArgs (top 23), defBody (top 23), defScope (top 23), [], []⟩
def dd_25 : He.DefD := ⟨("fits_core", none), "fits_core", "fits_core", defArgs (top 25), defBody (top 25), defScope (top 25), [], []⟩
def dd_9 : He.DefD := ⟨("fits_name", none), "fits_name", "fits_name", defArgs (top 9), defBody (top 9), defScope (top 9), [], []⟩
def dd_15 : He.DefD := ⟨("are_names", none), "are_names", "are_names", defArgs (top 15), defBody (top 15), defScope (top 15), [], []⟩
def dd_16 : He.DefD := ⟨("are_some", none), "are_some", "are_some", defArgs (top 16), defBody (top 16), defScope (top 16), [], []⟩
def dd_17 : He.DefD := ⟨("fits_table", none), "fits_table", "fits_table", defArgs (top 17), defBody (top 17), defScope (top 17), [], []⟩
def dd_18 : He.DefD := ⟨("need_table", none), "need_table", "need_table", defArgs (top 18), defBody (top 18), defScope (top 18), [], []⟩
def dd_27 : He.DefD := ⟨("is_core", none), "is_core", "is_core", defArgs (top 27), defBody (top 27), defScope (top 27), [], []⟩
def dd_41 : He.DefD := ⟨("_law_right", none), "_law_right", "_law_right", defArgs (top 41), defBody (top 41), defScope (top 41), [], []⟩
def dd_10 : He.DefD := ⟨("fits_whole", none), "fits_whole", "fits_whole", defArgs (top 10), defBody (top 10), defScope (top 10), [], []⟩
def dd_26 : He.DefD := ⟨("pattern", none), "pattern", "pattern", defArgs (top 26), defBody (top 26), defScope (top 26), [], []⟩
def dd_42 : He.DefD := ⟨("_law_written_right", none), "_law_written_right", "_law_written_right", defArgs (top 42), defBody (top 42), defScope (top 42), [], []⟩
def dd_43 : He.DefD := ⟨("law", none), "law", "law", defArgs (top 43), defBody (top 43), defScope (top 43), [], []⟩
def fn : List He.DefD := [dd_29, dd_35, dd_36, dd_38, dd_30, dd_31, dd_40, dd_34, dd_33, dd_37, dd_32, dd_39, dd_24, dd_11, dd_22, dd_23, dd_25, dd_9, dd_15, dd_16] ++ [dd_17, dd_18, dd_27, dd_41, dd_10, dd_26, dd_42, dd_43]
def fa : List He.Fa := ([.glo "_law_cup", .glo "_law_rows", .glo "_law_is_core", .glo "_law_judge", .glo "_law_roll", .glo "_law_some", .glo "_law_near", .glo "_law_mixed", .glo "_law_part", .glo "_law_planted", .glo "_law_same", .glo "_law_turned", .glo "are_unlike", .glo "is_tuple_of", .glo "pairs_to", .glo "rows_by", .glo "fits_core", .glo "fits_name", .glo "are_names", .glo "are_some"] : List He.Fa) ++ ([.glo "fits_table", .glo "need_table", .glo "is_core", .glo "_law_right", .glo "fits_whole", .glo "pattern", .glo "_law_written_right", .glo "law", .free "abs", .free "all", .free "bool", .free "dict", .free "enumerate", .free "int", .free "isinstance", .free "len", .free "list", .free "range", .free "set", .free "sorted"] : List He.Fa) ++ ([.free "str", .free "tuple", .free "zip", .str "LETTERS" "abcdefghijklmnopqrstuvwxyz", .int "LONGEST" 12, .int "MOST_CONTEXTS" 40, .int "MOST_KINDS" 20, .str "SIGNS" "abcdefghijklmnopqrstuvwxyz0123456789", .glo "LEAST", .glo "MOST"] : List He.Fa)
def ts : List Tv := [("LEAST", tb_LEAST), ("MOST", tb_MOST)]
abbrev R : PySem.W.OpenRow := PySem.W.OpenLaw.row PySem.Challenge.rw_earthorder_k31_whole_cores_judged
abbrev hk : PySem.W.Hook := Fw.hookV 4 fa fn ts
def ob (s : PySem.W.SharedT) : He.AlT × List Bool := Fw.obsVG 4 fa fn ts (HandSHeadRun.getT s)
theorem ob_eq (s : PySem.W.SharedT) : ob s = hk.obs s.abs := Fw.obsVG_eq (HandSHeadRun.getT_eq s)
def loose : List Str := (["EarthError", "InvalidTable", "InvalidPaper", "InvalidNumber", "LETTERS", "SIGNS", "LONGEST", "fits_name", "fits_whole", "is_tuple_of", "MOST_CONTEXTS", "MOST_KINDS", "are_names", "are_some", "fits_table", "need_table", "LEAST", "MOST", "pairs_to", "rows_by"] : List Str) ++ (["are_unlike", "fits_core", "pattern", "is_core", "_law_cup", "_law_roll", "_law_some", "_law_same", "_law_part", "_law_mixed", "_law_rows", "_law_is_core", "_law_planted", "_law_judge", "_law_turned", "_law_near", "_law_right", "_law_written_right"] : List Str)
def Runs (w : World) : Prop := HandSHeadRun.RunEq R (PySem.W.view R.prog [43]) hk ob 4000 loose w
theorem run (w : World) : HandSHeadRun.RunEq R (PySem.W.view R.prog [43]) hk ob 4000 loose w := by
  refine PySem.W.byRow2 (P := Runs) "special-get-raises" (fun w => ?_) (fun w => ?_) w <;> (intro os; kernel_rfl)
abbrev PP : Program := (PySem.Challenge.rw_earthorder_k31_whole_cores_judged).prog
theorem ev {w : World} {K : PySem.W.Frag} {h base : Heap} {mg : Str → Option Value} (X : K.In h) (G : h.Ns mainGlobals mg) (c : Fw.SaysV fa fn ts w K) : Ev ⟨⟨K, PP, w⟩, mg, base⟩ where
  d_29 := let ⟨fd, F⟩ := c.d.def_ 0 (d := dd_29) rfl; ⟨_, fd, F, He.glo_ok X G (c.d.fact 0 (f := .glo "_law_cup") rfl)⟩
  d_35 := let ⟨fd, F⟩ := c.d.def_ 1 (d := dd_35) rfl; ⟨_, fd, F, He.glo_ok X G (c.d.fact 1 (f := .glo "_law_rows") rfl)⟩
  d_36 := let ⟨fd, F⟩ := c.d.def_ 2 (d := dd_36) rfl; ⟨_, fd, F, He.glo_ok X G (c.d.fact 2 (f := .glo "_law_is_core") rfl)⟩
  d_38 := let ⟨fd, F⟩ := c.d.def_ 3 (d := dd_38) rfl; ⟨_, fd, F, He.glo_ok X G (c.d.fact 3 (f := .glo "_law_judge") rfl)⟩
  d_30 := let ⟨fd, F⟩ := c.d.def_ 4 (d := dd_30) rfl; ⟨_, fd, F, He.glo_ok X G (c.d.fact 4 (f := .glo "_law_roll") rfl)⟩
  d_31 := let ⟨fd, F⟩ := c.d.def_ 5 (d := dd_31) rfl; ⟨_, fd, F, He.glo_ok X G (c.d.fact 5 (f := .glo "_law_some") rfl)⟩
  d_40 := let ⟨fd, F⟩ := c.d.def_ 6 (d := dd_40) rfl; ⟨_, fd, F, He.glo_ok X G (c.d.fact 6 (f := .glo "_law_near") rfl)⟩
  d_34 := let ⟨fd, F⟩ := c.d.def_ 7 (d := dd_34) rfl; ⟨_, fd, F, He.glo_ok X G (c.d.fact 7 (f := .glo "_law_mixed") rfl)⟩
  d_33 := let ⟨fd, F⟩ := c.d.def_ 8 (d := dd_33) rfl; ⟨_, fd, F, He.glo_ok X G (c.d.fact 8 (f := .glo "_law_part") rfl)⟩
  d_37 := let ⟨fd, F⟩ := c.d.def_ 9 (d := dd_37) rfl; ⟨_, fd, F, He.glo_ok X G (c.d.fact 9 (f := .glo "_law_planted") rfl)⟩
  d_32 := let ⟨fd, F⟩ := c.d.def_ 10 (d := dd_32) rfl; ⟨_, fd, F, He.glo_ok X G (c.d.fact 10 (f := .glo "_law_same") rfl)⟩
  d_39 := let ⟨fd, F⟩ := c.d.def_ 11 (d := dd_39) rfl; ⟨_, fd, F, He.glo_ok X G (c.d.fact 11 (f := .glo "_law_turned") rfl)⟩
  d_24 := let ⟨fd, F⟩ := c.d.def_ 12 (d := dd_24) rfl; ⟨_, fd, F, He.glo_ok X G (c.d.fact 12 (f := .glo "are_unlike") rfl)⟩
  d_11 := let ⟨fd, F⟩ := c.d.def_ 13 (d := dd_11) rfl; ⟨_, fd, F, He.glo_ok X G (c.d.fact 13 (f := .glo "is_tuple_of") rfl)⟩
  d_22 := let ⟨fd, F⟩ := c.d.def_ 14 (d := dd_22) rfl; ⟨_, fd, F, He.glo_ok X G (c.d.fact 14 (f := .glo "pairs_to") rfl)⟩
  d_23 := let ⟨fd, F⟩ := c.d.def_ 15 (d := dd_23) rfl; ⟨_, fd, F, He.glo_ok X G (c.d.fact 15 (f := .glo "rows_by") rfl)⟩
  d_25 := let ⟨fd, F⟩ := c.d.def_ 16 (d := dd_25) rfl; ⟨_, fd, F, He.glo_ok X G (c.d.fact 16 (f := .glo "fits_core") rfl)⟩
  d_9 := let ⟨fd, F⟩ := c.d.def_ 17 (d := dd_9) rfl; ⟨_, fd, F, He.glo_ok X G (c.d.fact 17 (f := .glo "fits_name") rfl)⟩
  d_15 := let ⟨fd, F⟩ := c.d.def_ 18 (d := dd_15) rfl; ⟨_, fd, F, He.glo_ok X G (c.d.fact 18 (f := .glo "are_names") rfl)⟩
  d_16 := let ⟨fd, F⟩ := c.d.def_ 19 (d := dd_16) rfl; ⟨_, fd, F, He.glo_ok X G (c.d.fact 19 (f := .glo "are_some") rfl)⟩
  d_17 := let ⟨fd, F⟩ := c.d.def_ 20 (d := dd_17) rfl; ⟨_, fd, F, He.glo_ok X G (c.d.fact 20 (f := .glo "fits_table") rfl)⟩
  d_18 := let ⟨fd, F⟩ := c.d.def_ 21 (d := dd_18) rfl; ⟨_, fd, F, He.glo_ok X G (c.d.fact 21 (f := .glo "need_table") rfl)⟩
  d_27 := let ⟨fd, F⟩ := c.d.def_ 22 (d := dd_27) rfl; ⟨_, fd, F, He.glo_ok X G (c.d.fact 22 (f := .glo "is_core") rfl)⟩
  d_41 := let ⟨fd, F⟩ := c.d.def_ 23 (d := dd_41) rfl; ⟨_, fd, F, He.glo_ok X G (c.d.fact 23 (f := .glo "_law_right") rfl)⟩
  d_10 := let ⟨fd, F⟩ := c.d.def_ 24 (d := dd_10) rfl; ⟨_, fd, F, He.glo_ok X G (c.d.fact 24 (f := .glo "fits_whole") rfl)⟩
  d_26 := let ⟨fd, F⟩ := c.d.def_ 25 (d := dd_26) rfl; ⟨_, fd, F, He.glo_ok X G (c.d.fact 25 (f := .glo "pattern") rfl)⟩
  d_42 := let ⟨fd, F⟩ := c.d.def_ 26 (d := dd_42) rfl; ⟨_, fd, F, He.glo_ok X G (c.d.fact 26 (f := .glo "_law_written_right") rfl)⟩
  d_43 := let ⟨fd, F⟩ := c.d.def_ 27 (d := dd_43) rfl; ⟨_, fd, F, He.glo_ok X G (c.d.fact 27 (f := .glo "law") rfl)⟩
  f_abs := He.free_ok X G (c.d.fact 28 (f := .free "abs") rfl)
  f_all := He.free_ok X G (c.d.fact 29 (f := .free "all") rfl)
  f_bool := He.free_ok X G (c.d.fact 30 (f := .free "bool") rfl)
  f_dict := He.free_ok X G (c.d.fact 31 (f := .free "dict") rfl)
  f_enumerate := He.free_ok X G (c.d.fact 32 (f := .free "enumerate") rfl)
  f_int := He.free_ok X G (c.d.fact 33 (f := .free "int") rfl)
  f_isinstance := He.free_ok X G (c.d.fact 34 (f := .free "isinstance") rfl)
  f_len := He.free_ok X G (c.d.fact 35 (f := .free "len") rfl)
  f_list := He.free_ok X G (c.d.fact 36 (f := .free "list") rfl)
  f_range := He.free_ok X G (c.d.fact 37 (f := .free "range") rfl)
  f_set := He.free_ok X G (c.d.fact 38 (f := .free "set") rfl)
  f_sorted := He.free_ok X G (c.d.fact 39 (f := .free "sorted") rfl)
  f_str := He.free_ok X G (c.d.fact 40 (f := .free "str") rfl)
  f_tuple := He.free_ok X G (c.d.fact 41 (f := .free "tuple") rfl)
  f_zip := He.free_ok X G (c.d.fact 42 (f := .free "zip") rfl)
  c_LETTERS := gv_str (He.str_ok X G (c.d.fact 43 (f := .str "LETTERS" "abcdefghijklmnopqrstuvwxyz") rfl))
  c_LONGEST := gv_int (He.int_ok X G (c.d.fact 44 (f := .int "LONGEST" 12) rfl))
  c_MOST_CONTEXTS := gv_int (He.int_ok X G (c.d.fact 45 (f := .int "MOST_CONTEXTS" 40) rfl))
  c_MOST_KINDS := gv_int (He.int_ok X G (c.d.fact 46 (f := .int "MOST_KINDS" 20) rfl))
  c_SIGNS := gv_str (He.str_ok X G (c.d.fact 47 (f := .str "SIGNS" "abcdefghijklmnopqrstuvwxyz0123456789") rfl))
  c_LEAST := ⟨_, He.glo_ok X G (c.d.fact 48 (f := .glo "LEAST") rfl), c.tab 0 rfl⟩
  c_MOST := ⟨_, He.glo_ok X G (c.d.fact 49 (f := .glo "MOST") rfl), c.tab 1 rfl⟩
end L_k31
open PySem PySem.W PySem.Calls PyProof.Rows L2
theorem PySem.Challenge.cw_earthorder_k31_whole_cores_judged_holds : PySem.Challenge.rw_earthorder_k31_whole_cores_judged.Holds := by
  w_on; o_law
  refine HandSHeadRun.head_any (r := OpenLaw.row PySem.Challenge.rw_earthorder_k31_whole_cores_judged) (q := view (OpenLaw.row PySem.Challenge.rw_earthorder_k31_whole_cores_judged).prog [43]) (H := L_k31.hk) (ob := L_k31.ob) (M := 4000) (loose := L_k31.loose) (d := HandSHeadRun.topDef (OpenLaw.row PySem.Challenge.rw_earthorder_k31_whole_cores_judged).prog 43) (kwd := []) L_k31.ob_eq
    (by kernel_rfl) (fun s => by kernel_rfl) L_k31.run (by kernel_rfl) (by kernel_rfl) (by kernel_rfl) (by rfl) (by first | assumption | decide +kernel) (by decide +kernel) ⟨rfl, rfl, rfl, rfl, rfl, by decide +kernel⟩ ?hw ?hc
  case hw => w_witness2
  case hc =>
    refine Fw.walk_ofEB (l := PySem.Challenge.rw_earthorder_k31_whole_cores_judged) (n := 63) (k := 9) (x := "script") (CX := fun w => L2.CX L_k31.PP w) rfl (by decide) (by kernel_rfl) ⟨rfl, by decide, by decide⟩ ?F Fw.cx_none
    intro w mg fa h Y G hmg0
    obtain ⟨K, KX, c⟩ := Y
    have hmg : mg ("law" : PySem.Str) = some (.ref fa) := by
      have e : (HandSHeadRun.topDef (OpenLaw.row PySem.Challenge.rw_earthorder_k31_whole_cores_judged).prog 43).name = ("law" : PySem.Str) := by kernel_rfl
      rw [← e]
      exact hmg0
    obtain ⟨fd, F⟩ := c.d.def_ 27 (d := L_k31.dd_43) rfl
    have e := hmg.symm.trans (He.glo_ok KX G (c.d.fact 27 (f := .glo "law") rfl))
    cases e
    have b := FunD.bindsA (ps := ["script"]) F fun _ _ _ _ _ _ us hl => match us, hl with | [_], _ => rfl
    refine ⟨K, fd, Fw.FSp ⟨K, L_k31.PP, w⟩ mg L_k31.f_law, KX, fun s v => b s [v] rfl, fun H a ns hl hb _ hS => Fw.fsp_true hS (L_k31.law_true ns hl hb), fun base Kb Gb => ?_⟩
    exact Fw.fnok_of (c := ⟨⟨K, L_k31.PP, w⟩, mg, base⟩) (k := 8) (ps := ["script"]) F L_k31.fs_43 fun E => L_k31.j_law (L_k31.ev (base := base) KX G c)
