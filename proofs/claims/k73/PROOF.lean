import PyProof.Rows.All
import Wide.All
import OpenK.AllK
import Wide.FinOn
import HandS.ForMost
import HandS.TupAny
import HandS.TupMul
import HandS.Conv
import HandS.Call
import HandS.Exc
import HandS.ExcOwn
import HandS.Style
import HandS.Wide
import HandS.Deep
import HandS.NoneIn
import HandS.WordsExc
import HandS.Zip
import HandS.Star
import HandS.Text
import HandS.SortInts
import HandS.IsInst
import HandS.FStr
import HandS.RaiseMore
import HandS.SetFor
import HandS.Replace
import HandS.Strs
import KE.GoesEnum
import HandS.Iter
import PyProof.ReprRoads
import HandS.Property
import HandS.NamedTupSort
import HandS.TupSets
import KE.KStateDown
import HandS.Head0
import HandS.Head1
import HandS.Head2
import HandS.HeadEnd
import HandS.HeadHook1
import HandS.HeadHook2
import HandS.HeadHook3
import HandS.Flt
import HandS.WideBits
import HandS.OwnEq
import PyProof.StrBlockL
import PySem.Challenge.RW_toldtallies_k73_whole_profiles_by_trying
set_option Elab.async false
set_option linter.all false
set_option maxRecDepth 100000
set_option maxHeartbeats 4000000
/-! Mir00: new tuples, tracked together with their object (which has no dict). -/
namespace Mir
open PySem L2 PySem.Spec PyProof.Rows
/-- a new tuple is laid -/
def NewT (H : Hp) (xs : List V) (Q : VK) : Prop := ∀ (p : Addr) (o : Obj), o.dict = none → H p = none → Q (.ref p) (upd H p (.frz o (.tup xs)))
section
variable {X : Cx} {e : Expr} {es : List Expr} {te : TE} {t : TA} {pos : Pos} {pins : List (Addr × Obj)} {σ : L2.St} {H : Hp} {s : Shared} {Q : VK}
theorem laidT {h' : Heap} {xs : List V} {its : List Value} {tk : Nat} (I : Inv X pins σ H { s with heap := h' }) (hz : xs.length ≤ sizeLine) (r : Vals xs its) (q : NewT H xs Q) :
    EP X pins σ Q (.ref h'.objs.size) { s with heap := h'.push { cls := .type "tuple", data := .seq its.toArray }, toks := tk } := by
  have hf : H h'.objs.size = none := I.hok.fresh (Nat.le_refl _)
  refine ⟨.ref h'.objs.size, upd H h'.objs.size (.frz { cls := .type "tuple", data := .seq its.toArray } (.tup xs)), I.laid (t' := tk) (fun b u e => Heap.get?_push_of_some _ e) (Nat.le_refl _) ?_, rfl, q _ _ rfl hf⟩
  exact ⟨Heap.get?_push_size _ rfl, hz, its, r, ⟨_, Heap.get?_push_size _ rfl, rfl, _, rfl⟩⟩
def tTupF (t : TA) : TE := fun σ H Q => t σ H fun xs H1 => xs.length ≤ sizeLine ∧ NewT H1 xs Q
theorem pe_tupF {x1} (h : PA X es t) : PE X (.Tuple es x1 pos) (tTupF t) := by
  refine ⟨fun pins s σ H Q I hq => ?_⟩
  refine wpAny_Tuple_spliced (thn (h.run pos pins s σ H _ I hq) fun us s1 ⟨xs, H1, I1, r, z, q⟩ => ⟨by rw [← r.length]; exact z, ?_⟩)
  exact laidT (tk := s1.toks) (I1.kept (t' := s1.toks) fun b o e => e) z r q
theorem call_tupleF : CallR X (.type "tuple") (fun xs H Q => ∃ p ys, xs = [.ref p] ∧ ((SqL X.K H p ys ∧ NewT H ys Q) ∨ (SqT X.K H p ys ∧ Q (.ref p) H))) := by
  intro pins s σ H xs us Q I r h
  obtain ⟨p, ys, rfl, h⟩ := h
  obtain ⟨u, rfl, rx⟩ := vals1 r
  cases rx
  rcases h with ⟨hq, q⟩ | ⟨hq, q⟩
  · obtain ⟨its, r', pl, hz⟩ := I.list hq
    have hlen := r'.length
    refine call_tuple_list pl.isList (fun h' kp => ?_) (by simp only [List.size_toArray] <;> omega)
    exact laidT (I.kept (t' := s.toks) kp) hz r' q
  · obtain ⟨its, r', pl, hz⟩ := I.tuple hq
    exact call_tuple_same pl ⟨.ref p, H, I, rfl, q⟩
def rCatF (K : PySem.W.Frag) : R2 := fun x y H Q => ∃ a b xs ys, x = .ref a ∧ y = .ref b ∧ SqT K H a xs ∧ SqT K H b ys ∧ xs.length + ys.length ≤ sizeLine ∧
  (xs = [] → Q (.ref b) H) ∧ (xs ≠ [] → ys = [] → Q (.ref a) H) ∧ (xs ≠ [] → ys ≠ [] → NewT H (xs ++ ys) Q)
theorem op_catF : OpR X (binaryOp .Add) (rCatF X.K) := by
  intro pins s σ H x y v u Q I rx ry h
  obtain ⟨a, b, xs, ys, rfl, rfl, ha, hb, hz, q0, q1, q2⟩ := h
  cases rx
  cases ry
  obtain ⟨its, r1, p1, _⟩ := I.tuple ha
  obtain ⟨its2, r2, p2, _⟩ := I.tuple hb
  by_cases hx : xs = []
  · subst hx
    cases r1
    exact cat_tup0 p1 p2 ⟨.ref b, H, I, rfl, q0 rfl⟩
  · refine HT.cat_tup p1 p2 (fun z => hx (r1.nil_iff.mp z)) (fun z => ⟨.ref a, H, I, rfl, q1 hx (r2.nil_iff.mp z)⟩) (fun z => ?_) (by rw [← r1.length, ← r2.length]; exact hz)
    exact laidT (I.kept (t' := s.toks) fun b o e => e) (by rw [List.length_append]; exact hz) (r1.append r2) (q2 hx fun w => z (r2.nil_iff.mpr w))
def rSlF (K : PySem.W.Frag) : V → Option Int → Option Int → Hp → VK → Prop := fun x lo hi H Q => ∃ a xs, x = .ref a ∧ SqT K H a xs ∧
  (HT.sIx xs.length 0 lo = 0 ∧ HT.sIx xs.length xs.length hi = xs.length → Q (.ref a) H) ∧ (¬ (HT.sIx xs.length 0 lo = 0 ∧ HT.sIx xs.length xs.length hi = xs.length) → NewT H (cutV xs lo hi) Q)
theorem sl_tupF : L2.SlR X (rSlF X.K) := by
  intro pins s σ H x v vl vu lo hi sl Q I rx hs pl pu h
  obtain ⟨a, xs, rfl, hx, q1, q2⟩ := h
  cases rx
  obtain ⟨its, r, ht, hz⟩ := I.tuple hx
  have hlen : its.toArray.size = xs.length := by rw [List.size_toArray]; exact r.length.symm
  refine ⟨"tuple", _, PyProof.Rows.slot_tuple_getitem.lookup, ht.typeIs, ?_⟩
  by_cases hw : HT.sIx xs.length 0 lo = 0 ∧ HT.sIx xs.length xs.length hi = xs.length
  · exact getItem_tuple_whole ht hs pl pu (by rw [hlen]; exact hw) ⟨.ref a, H, I, rfl, q1 hw⟩
  · refine HT.getItem_tuple_cut ht hs pl pu (by rw [hlen]; exact hw) ?_ (by rw [hlen]; exact hz)
    rw [hlen]
    exact laidT (its := (its.drop (HT.sIx xs.length 0 lo)).take (HT.sIx xs.length xs.length hi - HT.sIx xs.length 0 lo)) (I.kept (t' := s.toks) fun b o e => e) (Nat.le_trans (cutV_length xs lo hi) hz) ((r.drop _).take _) (q2 hw)
theorem call_divmodF : CallR X (.builtin "divmod") (fun xs H Q => ∃ i j, xs = [.int i, .int j] ∧ CDiv i j ∧ NewT H [.int (i / j), .int (i % j)] Q) := by
  intro pins s σ H xs us Q I r h
  obtain ⟨i, j, rfl, ⟨h1, h2⟩, q⟩ := h
  obtain ⟨u, w', rfl, ⟨t, rfl⟩, ⟨t', rfl⟩⟩ := vals2 r
  refine divmod_int (by omega) ?_ (.inl (PyProof.noPylong_small (by omega)))
  rw [Int.fdiv_eq_ediv_of_nonneg i (by omega), Int.fmod_eq_emod_of_nonneg i (by omega)]
  exact laidT (xs := [.int (i / j), .int (i % j)]) (its := [.int (i / j) s.toks, .int (i % j) (s.toks + 1)]) (I.kept (t' := s.toks) fun b o e => e) (by simp only [List.length_cons, List.length_nil]; rw [sizeLine_eq]; decide) (.cons ⟨_, rfl⟩ (.cons ⟨_, rfl⟩ .nil)) q
def tTupRgF (te : L2.St → Hp → (Int → Int → Hp → Prop) → Prop) : TE := fun σ H Q => te σ H fun a b H1 => RgOk a b ∧ NewT H1 (rgV a b) Q
theorem pe_tupRgF {te : L2.St → Hp → (Int → Int → Hp → Prop) → Prop} {p pos : Pos} (hc : X.calm = true) (hg : Gl X "tuple") (hm : X.mg "tuple" = none) (he : PRg X e te) (na : starEach [e] X.env = (false, eval e X.env) :: starEach [] X.env := by rfl) : PE X (.Call (.Name "tuple" p) [e] [] pos) (tTupRgF te) := by
  refine ⟨fun pins s σ H Q I h => ?_⟩
  refine Call_ (ld_blt I hg hm boot_tuple (PyProof.Rows.callWith_type1 (args_cons (thn (he pins s σ H _ I h) fun x s1 ⟨r, a, b, t, u, v, H1, ex, hr, I1, ok, q⟩ => args_nil ?_) na) na))
  subst ex
  obtain ⟨b1, b2, b3, b4, b5⟩ := ok
  refine call_tuple_range (n := (b - a).toNat) (I1.ok.hd hc) hr (small_one b1 b2 b3 b4) (rangeSize_nat a b) b5 fun h' tk acc hk hi => ?_
  have z := laidT (s := s1) (its := acc.toList) (tk := tk) (I1.kept (t' := s1.toks) hk) (by rw [rgV_length, sizeLine_eq]; omega) (vals_rg hi) q
  rw [Array.toArray_toList] at z
  exact z
theorem tuple_mul1 (l : Addr) (items : Array Value) (n : Nat) (dd : Option Addr) (sl : Array (Option Value)) (u : Tok) :
    Meets (Builtin.«tuple.__mul__» ⟨[.ref l, .int 1 u], []⟩) (fun _ R s => s.heap.get? l = some { cls := .type "tuple", dict := dd, data := .seq items n, slots := sl } ∧
      R (.ok (.ret (Value.ref l))) s) :=
  .of_wp fun prog w A R s h => by
    obtain ⟨hp, g, d, tk, os⟩ := s
    obtain ⟨hl, h⟩ := h
    have f1 := AutoSeq1.idx_int
    have c1 : (items.isEmpty || (1 : Int) == 1) = true := by simp
    wp_walk using wpAny_loadPart' hl
    repeat (first
      | (refine wpAny_ite_false (decide_eq_false (by decide)) ?_; wp_walk using wpAny_loadPart' hl)
      | (refine wpAny_ite_true (decide_eq_true c1) ?_; wp_walk using wpAny_loadPart' hl))
    exact ⟨_, rfl, h⟩
def rRepF (K : PySem.W.Frag) : R2 := fun x y H Q => ∃ l k xs, x = .ref l ∧ y = .int k ∧ SqT K H l xs ∧ xs ≠ [] ∧ xs.length ≤ 1000 ∧ ((k = 1 ∧ Q (.ref l) H) ∨ (2 ≤ k ∧ k ≤ 1000 ∧ NewT H (List.replicate k.toNat xs).flatten Q))
theorem op_repF : OpR X (binaryOp .Mult) (rRepF X.K) := by
  intro pins s σ H x y v u Q I rx ry h
  obtain ⟨l, k, xs, rfl, rfl, hT, hne, hz, h⟩ := h
  cases rx
  obtain ⟨t, rfl⟩ := ry
  obtain ⟨its, r, ⟨⟨cls, dd, data, sl⟩, ho, hc, n, hd⟩, hs⟩ := I.tuple hT
  simp only at hc hd
  subst hc hd
  rcases h with ⟨rfl, q⟩ | ⟨h1, h2, q⟩
  · refine wpAny_binaryOp_repeat_ref (T := "tuple") (U := "int") (by decide) ⟨_, ho, rfl⟩ (fun s' => typeIs_int s' 1 t) noFill_tuple_mul F.fills_int_mul F.slot_int_rmul repeat_tuple F.slot_int_index.lookup
      (call_meets F.slot_int_rmul (typeIs_int s 1 t) F.entry_int_rmul (F.args_int_rmul_2 _ _) (int_rmul_tuple 1 t l its.toArray n dd sl)
        ⟨ho, rfl, ⟨_, ho, rfl⟩, call_meets F.slot_tuple_mul ⟨_, ho, rfl⟩ F.entry_tuple_mul (F.args_tuple_mul_2 _ _) (tuple_mul1 l its.toArray n dd sl t) ⟨ho, ?_⟩⟩)
    exact ⟨.ref l, H, I, rfl, q⟩
  · have hle : its.length = xs.length := r.length.symm
    have hn : its ≠ [] := fun e => hne (by
      rw [e] at hle
      exact List.eq_nil_of_length_eq_zero hle.symm)
    have hi : its.toArray.isEmpty = false := by
      cases its with
      | nil => exact absurd rfl hn
      | cons a b => rfl
    have hsz0 : its.toArray.size = xs.length := by rw [List.size_toArray, hle]
    have hm : ((its.toArray.size : Nat) : Int) * k ≤ 1000000 := by
      rw [hsz0]
      have a1 : ((xs.length : Nat) : Int) * k ≤ 1000 * k := Int.mul_le_mul_of_nonneg_right (by omega) (by omega)
      omega
    have flen : (List.replicate k.toNat its).flatten.length ≤ sizeLine := by
      rw [PyProof.Rows.lm_len_rep_flat, hle, sizeLine_eq]
      have a1 : k.toNat * xs.length ≤ 1000 * 1000 := Nat.mul_le_mul (by omega) hz
      omega
    have c0 : (decide (k < -(2 ^ 63)) || decide (k ≥ 2 ^ 63)) = false := by
      rw [decide_eq_false (by omega), decide_eq_false (by omega)] <;> rfl
    have c1 : (its.toArray.isEmpty || k == 1) = false := by
      rw [hi, Bool.false_or]
      exact beq_eq_false_iff_ne.mpr (by omega)
    have c2 : (decide (k ≤ 0) || its.toArray.isEmpty) = false := by
      rw [hi, Bool.or_false]
      exact decide_eq_false (by omega)
    have c4 : Builtin.Tuple.tupleTooMany (((its.toArray.size : Nat) : Int) * k) = false := by
      unfold Builtin.Tuple.tupleTooMany
      rw [sizeLine_eq]
      exact decide_eq_false (by omega)
    refine wpAny_binaryOp_repeat_ref (T := "tuple") (U := "int") (by decide) ⟨_, ho, rfl⟩ (fun s' => typeIs_int s' k t) noFill_tuple_mul F.fills_int_mul F.slot_int_rmul repeat_tuple F.slot_int_index.lookup
      (call_meets F.slot_int_rmul (typeIs_int s k t) F.entry_int_rmul (F.args_int_rmul_2 _ _) (int_rmul_tuple k t l its.toArray n dd sl)
        ⟨ho, rfl, ⟨_, ho, rfl⟩, call_meets F.slot_tuple_mul ⟨_, ho, rfl⟩ F.entry_tuple_mul (F.args_tuple_mul_2 _ _) (tuple_mulW l its.toArray n dd sl k t c0 c1 c2 (by omega) c4 (by rw [size_rep, List.size_toArray]; exact flen)) ⟨ho, ?_⟩⟩)
    rw [size_rep]
    exact laidT (s := s) (tk := s.toks) (I.kept (t' := s.toks) fun b o e => e) (by rw [PyProof.Rows.lm_len_rep_flat, sizeLine_eq]; have a1 : k.toNat * xs.length ≤ 1000 * 1000 := Nat.mul_le_mul (by omega) hz; omega) (r.rep k.toNat) q
end
end Mir
set_option Elab.async false
set_option linter.all false
set_option maxRecDepth 100000
set_option maxHeartbeats 4000000
/-! Mir0: data D, the monad M, how data lies in the heap (Rep), the state of a def (Rel), readings by mirrors (rd). -/
namespace Mir
open PySem L2
/-- Python's data, by value -/
inductive D where
  | non | bl (b : Bool) | int (i : Int) | str (s : Str)
  | tup (xs : List D) | lst (xs : List D)
  | dK (ks : List Key) (vs : List D)
  | ins (c : Nat) (ns : List Str) (vs : List D)
  | jar
  | set (ns : List Int)
  | scr (ns : List Int)
/-- what a mirror gives: a value, an exception (its class, what it keeps), or nothing is known; j: the jar's numbers -/
inductive Res (α : Type) where
  | ok (a : α) (j : List Int)
  | exc (k : Nat) (g : D) (j : List Int)
  | stk
abbrev M (α : Type) := List Int → Res α
def ret {α : Type} (a : α) : M α := fun j => .ok a j
def stuck {α : Type} : M α := fun _ => .stk
def bnd {α β : Type} (m : M α) (f : α → M β) : M β := fun j => match m j with
  | .ok a j' => f a j'
  | .exc k g j' => .exc k g j'
  | .stk => .stk
theorem bnd_ret {α β : Type} (a : α) (f : α → M β) : bnd (ret a) f = f a := rfl
theorem bnd_ok {α β : Type} {m : M α} {f : α → M β} {j j' : List Int} {a : α} (h : m j = .ok a j') : bnd m f j = f a j' := by
  unfold bnd; rw [h]
theorem bnd_assoc {α β γ : Type} (m : M α) (f : α → M β) (g : β → M γ) : bnd (bnd m f) g = bnd m fun x => bnd (f x) g := by
  funext j; unfold bnd; cases m j <;> rfl
/-- if the condition holds, go on -/
def need {α : Type} (c : Prop) [Decidable c] (m : M α) : M α := if c then m else stuck
theorem need_pos {α : Type} {c : Prop} [Decidable c] (h : c) (m : M α) : need c m = m := if_pos h
/-- the context: the written part, the jar's address, the classes, the attribute of a class of errors -/
structure RC where
  K : PySem.W.Frag
  J : Addr
  cls : Nat → Addr
  att : Nat → Str
  S : Addr
  has : Bool
/-- the jar's address, if there is a jar -/
def RC.Js (c : RC) : List Addr := if c.has = true then [c.J] else []
/-- the jar, if there is one, is among L -/
def InJ (c : RC) (L : List Addr) : Prop := ∀ x ∈ c.Js, x ∈ L
theorem RC.Js_has {c : RC} (h : c.has = true) : c.Js = [c.J] := if_pos h
theorem RC.Js_no {c : RC} (h : c.has = false) : c.Js = [] := if_neg (by rw [h]; exact fun z => nomatch z)
theorem RC.mem_Js {c : RC} {a : Addr} : a ∈ c.Js ↔ c.has = true ∧ a = c.J := by
  unfold RC.Js
  cases h : c.has <;> simp
theorem InJ.cons {c : RC} {L : List Addr} {p : Addr} (h : InJ c L) : InJ c (p :: L) := fun x hx => List.mem_cons_of_mem _ (h x hx)
theorem InJ.ne {c : RC} {L : List Addr} {a : Addr} (h : InJ c L) (n : a ∉ L) : a ∉ c.Js := fun z => n (h a z)
/-- a tuple at a: tracked and not among L, or of the written part -/
def TupAt (c : RC) (L : List Addr) (H : Hp) (a : Addr) (vs : List V) : Prop :=
  (a ∉ L ∧ ∃ o : Obj, H a = some (.frz o (.tup vs)) ∧ o.dict = none) ∨ ∃ (o : Obj) (its : Array Value) (n : Nat), c.K.lookup a = some o ∧ o.dict = none ∧ o.cls = .type "tuple" ∧ o.data = .seq its n ∧ its.size ≤ sizeLine ∧ Vals vs its.toList
theorem TupAt.sq {c : RC} {L : List Addr} {H : Hp} {a : Addr} {vs : List V} (h : TupAt c L H a vs) : SqT c.K H a vs := h.elim (fun ⟨_, o, z, _⟩ => .inl (.inr ⟨o, z⟩)) fun ⟨o, its, n, h1, _, h2⟩ => .inr ⟨o, its, n, h1, h2⟩
/-- a list that nobody changes at a: tracked and not among L, or of the written part -/
def ScrAt (c : RC) (L : List Addr) (H : Hp) (a : Addr) (vs : List V) : Prop :=
  (a ∉ L ∧ ∃ o : HO, H a = some o ∧ ∀ H' : Hp, H' a = some o → SqL c.K H' a vs) ∨ ∀ H' : Hp, SqL c.K H' a vs
theorem ScrAt.sq {c : RC} {L : List Addr} {H : Hp} {a : Addr} {vs : List V} (h : ScrAt c L H a vs) : SqL c.K H a vs := h.elim (fun ⟨_, o, z, f⟩ => f H z) fun f => f H
theorem ScrAt.exS {c : RC} {L S : List Addr} {H H' : Hp} {a : Addr} {vs : List V} (s : ∀ x ∈ S, x ∈ L) (e : ∀ a o, a ∉ S → H a = some o → H' a = some o) (h : ScrAt c L H a vs) : ScrAt c L H' a vs :=
  h.elim (fun ⟨n, o, z, y⟩ => .inl ⟨n, o, e a _ (fun q => n (s a q)) z, y⟩) .inr
theorem ScrAt.sub {c : RC} {L L' : List Addr} {H : Hp} {a : Addr} {vs : List V} (s : ∀ x ∈ L', x ∈ L) (h : ScrAt c L H a vs) : ScrAt c L' H a vs :=
  h.elim (fun ⟨n, z⟩ => .inl ⟨fun q => n (s a q), z⟩) .inr
mutual
def Rep (c : RC) (L : List Addr) (H : Hp) : D → V → Prop
  | .non, v => v = .non
  | .bl b, v => v = .bl b
  | .int i, v => v = .int i
  | .str s, v => v = .str s
  | .tup ds, v => ∃ a vs, v = .ref a ∧ TupAt c L H a vs ∧ Reps c L H ds vs
  | .lst ds, v => ∃ a vs, v = .ref a ∧ a ∉ L ∧ H a = some (.lst vs) ∧ Reps c L H ds vs
  | .dK ks ds, v => ∃ a vs, v = .ref a ∧ a ∉ L ∧ H a = some (.dK (ks.zip vs)) ∧ ks.length = ds.length ∧ Reps c L H ds vs
  | .ins k ns ds, v => ∃ a dx vs, v = .ref a ∧ a ∉ L ∧ H a = some (.ins (c.cls k) dx (ns.zip vs)) ∧ ns.length = ds.length ∧ Reps c L H ds vs
  | .jar, v => v = .ref c.J ∧ c.has = true
  | .set ns, v => ∃ a n, v = .ref a ∧ a ∉ L ∧ H a = some (.set (fun k => decide (k ∈ ns)) n)
  | .scr ns, v => ∃ a, v = .ref a ∧ ScrAt c L H a (ns.map V.int)
def Reps (c : RC) (L : List Addr) (H : Hp) : List D → List V → Prop
  | [], vs => vs = []
  | d :: ds, vs => ∃ v r, vs = v :: r ∧ Rep c L H d v ∧ Reps c L H ds r
end
/-- what stood outside S stands -/
def ExS (S : List Addr) (H H' : Hp) : Prop := ∀ a o, a ∉ S → H a = some o → H' a = some o
theorem ExS.refl {S : List Addr} {H : Hp} : ExS S H H := fun _ _ _ h => h
theorem ExS.trans {S : List Addr} {H H1 H2 : Hp} (a : ExS S H H1) (b : ExS S H1 H2) : ExS S H H2 := fun x o n h => b x o n (a x o n h)
theorem ExS.new {S : List Addr} {H : Hp} {p : Addr} {o : HO} (h : H p = none) : ExS S H (upd H p o) := fun a u _ e => by
  rw [upd_ne (ne_of_none e h)]; exact e
theorem ExS.mono {S S' : List Addr} {H H' : Hp} (s : ∀ a ∈ S, a ∈ S') (e : ExS S H H') : ExS S' H H' := fun a o n h => e a o (fun z => n (s a z)) h
theorem TupAt.exS {c : RC} {L S : List Addr} {H H' : Hp} {a : Addr} {vs : List V} (s : ∀ x ∈ S, x ∈ L) (e : ExS S H H') (h : TupAt c L H a vs) : TupAt c L H' a vs :=
  h.elim (fun ⟨n, o, z, y⟩ => .inl ⟨n, o, e a _ (fun q => n (s a q)) z, y⟩) .inr
theorem TupAt.sub {c : RC} {L L' : List Addr} {H : Hp} {a : Addr} {vs : List V} (s : ∀ x ∈ L', x ∈ L) (h : TupAt c L H a vs) : TupAt c L' H a vs :=
  h.elim (fun ⟨n, z⟩ => .inl ⟨fun q => n (s a q), z⟩) .inr
theorem TupAt.add {c : RC} {L : List Addr} {H : Hp} {a p : Addr} {vs : List V} (hp : H p = none) (h : TupAt c L H a vs) : TupAt c (p :: L) H a vs :=
  h.elim (fun ⟨n, o, z, y⟩ => .inl ⟨fun q => (List.mem_cons.mp q).elim (fun e => ne_of_none z hp e) n, o, z, y⟩) .inr
theorem ScrAt.add {c : RC} {L : List Addr} {H : Hp} {a p : Addr} {vs : List V} (hp : H p = none) (h : ScrAt c L H a vs) : ScrAt c (p :: L) H a vs :=
  h.elim (fun ⟨n, o, z, y⟩ => .inl ⟨fun q => (List.mem_cons.mp q).elim (fun e => ne_of_none z hp e) n, o, z, y⟩) .inr
theorem notin_cons {p a : Addr} {L : List Addr} {H : Hp} {o : HO} (hp : H p = none) (z : H a = some o) (n : a ∉ L) : a ∉ p :: L := fun q => (List.mem_cons.mp q).elim (fun e => ne_of_none z hp e) n
mutual
theorem Rep.exS {c : RC} {L S : List Addr} {H H' : Hp} (s : ∀ x ∈ S, x ∈ L) (e : ExS S H H') : ∀ (d : D) (v : V), Rep c L H d v → Rep c L H' d v
  | .non, _, h => h
  | .bl _, _, h => h
  | .int _, _, h => h
  | .str _, _, h => h
  | .tup ds, _, h => by
    obtain ⟨a, vs, e1, t, r⟩ := h
    exact ⟨a, vs, e1, t.exS s e, Reps.exS s e ds vs r⟩
  | .lst ds, _, h => by
    obtain ⟨a, vs, e1, n, t, r⟩ := h
    exact ⟨a, vs, e1, n, e a _ (fun q => n (s a q)) t, Reps.exS s e ds vs r⟩
  | .dK ks ds, _, h => by
    obtain ⟨a, vs, e1, n, t, l, r⟩ := h
    exact ⟨a, vs, e1, n, e a _ (fun q => n (s a q)) t, l, Reps.exS s e ds vs r⟩
  | .ins k ns ds, _, h => by
    obtain ⟨a, dx, vs, e1, n, t, l, r⟩ := h
    exact ⟨a, dx, vs, e1, n, e a _ (fun q => n (s a q)) t, l, Reps.exS s e ds vs r⟩
  | .jar, _, h => h
  | .set ns, _, h => by
    obtain ⟨a, m, e1, n, t⟩ := h
    exact ⟨a, m, e1, n, e a _ (fun q => n (s a q)) t⟩
  | .scr ns, _, h => by
    obtain ⟨a, e1, t⟩ := h
    exact ⟨a, e1, t.exS s e⟩
theorem Reps.exS {c : RC} {L S : List Addr} {H H' : Hp} (s : ∀ x ∈ S, x ∈ L) (e : ExS S H H') : ∀ (ds : List D) (vs : List V), Reps c L H ds vs → Reps c L H' ds vs
  | [], _, h => h
  | d :: ds, _, h => by
    obtain ⟨v, r, e1, h1, h2⟩ := h
    exact ⟨v, r, e1, Rep.exS s e d v h1, Reps.exS s e ds r h2⟩
end
mutual
theorem Rep.sub {c : RC} {L L' : List Addr} {H : Hp} (s : ∀ x ∈ L', x ∈ L) : ∀ (d : D) (v : V), Rep c L H d v → Rep c L' H d v
  | .non, _, h => h
  | .bl _, _, h => h
  | .int _, _, h => h
  | .str _, _, h => h
  | .tup ds, _, h => by
    obtain ⟨a, vs, e1, t, r⟩ := h
    exact ⟨a, vs, e1, t.sub s, Reps.sub s ds vs r⟩
  | .lst ds, _, h => by
    obtain ⟨a, vs, e1, n, t, r⟩ := h
    exact ⟨a, vs, e1, fun q => n (s a q), t, Reps.sub s ds vs r⟩
  | .dK ks ds, _, h => by
    obtain ⟨a, vs, e1, n, t, l, r⟩ := h
    exact ⟨a, vs, e1, fun q => n (s a q), t, l, Reps.sub s ds vs r⟩
  | .ins k ns ds, _, h => by
    obtain ⟨a, dx, vs, e1, n, t, l, r⟩ := h
    exact ⟨a, dx, vs, e1, fun q => n (s a q), t, l, Reps.sub s ds vs r⟩
  | .jar, _, h => h
  | .set ns, _, h => by
    obtain ⟨a, m, e1, n, t⟩ := h
    exact ⟨a, m, e1, fun q => n (s a q), t⟩
  | .scr ns, _, h => by
    obtain ⟨a, e1, t⟩ := h
    exact ⟨a, e1, t.sub s⟩
theorem Reps.sub {c : RC} {L L' : List Addr} {H : Hp} (s : ∀ x ∈ L', x ∈ L) : ∀ (ds : List D) (vs : List V), Reps c L H ds vs → Reps c L' H ds vs
  | [], _, h => h
  | d :: ds, _, h => by
    obtain ⟨v, r, e1, h1, h2⟩ := h
    exact ⟨v, r, e1, Rep.sub s d v h1, Reps.sub s ds r h2⟩
end
mutual
theorem Rep.add {c : RC} {L : List Addr} {H : Hp} {p : Addr} (hp : H p = none) : ∀ (d : D) (v : V), Rep c L H d v → Rep c (p :: L) H d v
  | .non, _, h => h
  | .bl _, _, h => h
  | .int _, _, h => h
  | .str _, _, h => h
  | .tup ds, _, h => by
    obtain ⟨a, vs, e1, t, r⟩ := h
    exact ⟨a, vs, e1, t.add hp, Reps.add hp ds vs r⟩
  | .lst ds, _, h => by
    obtain ⟨a, vs, e1, n, t, r⟩ := h
    exact ⟨a, vs, e1, notin_cons hp t n, t, Reps.add hp ds vs r⟩
  | .dK ks ds, _, h => by
    obtain ⟨a, vs, e1, n, t, l, r⟩ := h
    exact ⟨a, vs, e1, notin_cons hp t n, t, l, Reps.add hp ds vs r⟩
  | .ins k ns ds, _, h => by
    obtain ⟨a, dx, vs, e1, n, t, l, r⟩ := h
    exact ⟨a, dx, vs, e1, notin_cons hp t n, t, l, Reps.add hp ds vs r⟩
  | .jar, _, h => h
  | .set ns, _, h => by
    obtain ⟨a, m, e1, n, t⟩ := h
    exact ⟨a, m, e1, notin_cons hp t n, t⟩
  | .scr ns, _, h => by
    obtain ⟨a, e1, t⟩ := h
    exact ⟨a, e1, t.add hp⟩
theorem Reps.add {c : RC} {L : List Addr} {H : Hp} {p : Addr} (hp : H p = none) : ∀ (ds : List D) (vs : List V), Reps c L H ds vs → Reps c (p :: L) H ds vs
  | [], _, h => h
  | d :: ds, _, h => by
    obtain ⟨v, r, e1, h1, h2⟩ := h
    exact ⟨v, r, e1, Rep.add hp d v h1, Reps.add hp ds r h2⟩
end
theorem Reps.len {c : RC} {L : List Addr} {H : Hp} : ∀ {ds : List D} {vs : List V}, Reps c L H ds vs → ds.length = vs.length
  | [], _, h => by subst h; rfl
  | d :: ds, _, h => by
    obtain ⟨v, r, e1, _, h2⟩ := h
    subst e1
    simp [Reps.len h2]
theorem Reps.get {c : RC} {L : List Addr} {H : Hp} : ∀ {ds : List D} {vs : List V} {i : Nat} {d : D}, Reps c L H ds vs → ds[i]? = some d → ∃ v, vs[i]? = some v ∧ Rep c L H d v
  | [], _, _, _, _, h => by simp at h
  | d :: ds, _, 0, d', h, e => by
    obtain ⟨v, r, e1, h1, _⟩ := h
    subst e1
    simp at e; subst e
    exact ⟨v, rfl, h1⟩
  | d :: ds, _, i + 1, d', h, e => by
    obtain ⟨v, r, e1, _, h2⟩ := h
    subst e1
    obtain ⟨w, q1, q2⟩ := Reps.get (i := i) h2 (by simpa using e)
    exact ⟨w, by simpa using q1, q2⟩
theorem Reps.get' {c : RC} {L : List Addr} {H : Hp} : ∀ {ds : List D} {vs : List V} {i : Nat} {v : V}, Reps c L H ds vs → vs[i]? = some v → ∃ d, ds[i]? = some d ∧ Rep c L H d v := by
  intro ds vs i v h e
  have hl := h.len
  have hi : i < vs.length := (List.getElem?_eq_some_iff.mp e).1
  obtain ⟨w, q1, q2⟩ := h.get (i := i) (d := ds[i]'(by omega)) (by simp)
  rw [q1] at e; cases e
  exact ⟨_, List.getElem?_eq_getElem (by omega), q2⟩
theorem Reps.app {c : RC} {L : List Addr} {H : Hp} : ∀ {ds es : List D} {vs ws : List V}, Reps c L H ds vs → Reps c L H es ws → Reps c L H (ds ++ es) (vs ++ ws)
  | [], _, _, _, h, h' => by subst h; exact h'
  | d :: ds, es, _, ws, h, h' => by
    obtain ⟨v, r, e1, h1, h2⟩ := h
    subst e1
    exact ⟨v, r ++ ws, rfl, h1, Reps.app h2 h'⟩
theorem Reps.one {c : RC} {L : List Addr} {H : Hp} {d : D} {v : V} (h : Rep c L H d v) : Reps c L H [d] [v] := ⟨v, [], rfl, h, rfl⟩
theorem Reps.cons {c : RC} {L : List Addr} {H : Hp} {d : D} {v : V} {ds : List D} {vs : List V} (h : Rep c L H d v) (t : Reps c L H ds vs) : Reps c L H (d :: ds) (v :: vs) := ⟨v, vs, rfl, h, t⟩
theorem Reps.take {c : RC} {L : List Addr} {H : Hp} : ∀ {ds : List D} {vs : List V} (n : Nat), Reps c L H ds vs → Reps c L H (ds.take n) (vs.take n)
  | _, _, 0, _ => rfl
  | [], _, _ + 1, h => by subst h; rfl
  | d :: ds, _, n + 1, h => by
    obtain ⟨v, r, e1, h1, h2⟩ := h
    subst e1
    exact ⟨v, r.take n, rfl, h1, Reps.take n h2⟩
theorem Reps.drop {c : RC} {L : List Addr} {H : Hp} : ∀ {ds : List D} {vs : List V} (n : Nat), Reps c L H ds vs → Reps c L H (ds.drop n) (vs.drop n)
  | _, _, 0, h => h
  | [], _, _ + 1, h => by subst h; rfl
  | d :: ds, _, n + 1, h => by
    obtain ⟨v, r, e1, h1, h2⟩ := h
    subst e1
    exact Reps.drop n h2
theorem Reps.set {c : RC} {L : List Addr} {H : Hp} {d' : D} {v' : V} (h' : Rep c L H d' v') : ∀ {ds : List D} {vs : List V} (n : Nat), Reps c L H ds vs → Reps c L H (ds.set n d') (vs.set n v')
  | [], _, _, h => by subst h; rfl
  | d :: ds, _, 0, h => by
    obtain ⟨v, r, e1, h1, h2⟩ := h
    subst e1
    exact ⟨v', r, rfl, h', h2⟩
  | d :: ds, _, n + 1, h => by
    obtain ⟨v, r, e1, h1, h2⟩ := h
    subst e1
    exact ⟨v, r.set n v', rfl, h1, Reps.set h' n h2⟩
/-- a value that may be one of the def's own lists: its outermost object may stand among L -/
def RepB (c : RC) (L : List Addr) (H : Hp) : D → V → Prop
  | .lst ds, v => ∃ a vs, v = .ref a ∧ a ∉ c.Js ∧ H a = some (.lst vs) ∧ Reps c L H ds vs
  | .dK ks ds, v => ∃ a vs, v = .ref a ∧ a ∉ c.Js ∧ H a = some (.dK (ks.zip vs)) ∧ ks.length = ds.length ∧ Reps c L H ds vs
  | .ins k ns ds, v => ∃ a dx vs, v = .ref a ∧ a ∉ c.Js ∧ H a = some (.ins (c.cls k) dx (ns.zip vs)) ∧ ns.length = ds.length ∧ Reps c L H ds vs
  | d, v => Rep c L H d v
theorem Rep.b {c : RC} {L : List Addr} {H : Hp} (hJ : InJ c L) {d : D} {v : V} (h : Rep c L H d v) : RepB c L H d v := by
  have nj : ∀ {a : Addr}, a ∉ L → a ∉ c.Js := fun n => hJ.ne n
  cases d with
  | lst ds => obtain ⟨a, vs, e1, n, t, r⟩ := h; exact ⟨a, vs, e1, nj n, t, r⟩
  | dK ks ds => obtain ⟨a, vs, e1, n, t, l, r⟩ := h; exact ⟨a, vs, e1, nj n, t, l, r⟩
  | ins k ns ds => obtain ⟨a, dx, vs, e1, n, t, l, r⟩ := h; exact ⟨a, dx, vs, e1, nj n, t, l, r⟩
  | _ => exact h
/-- a list or a dict or an instance: what may be changed -/
def isMut : D → Bool
  | .lst _ => true
  | .dK _ _ => true
  | .ins _ _ _ => true
  | _ => false
/-- the modes: it is only looked at; it may be kept anywhere; it may be kept, and if it can be changed, nobody else knows it -/
inductive Md where
  | look | keep | fresh
/-- fresh data: its outermost object, if it can be changed, is new behind H0 and known to nothing else -/
def RepF (c : RC) (L : List Addr) (H0 H : Hp) : D → V → Prop
  | .lst ds, v => ∃ a vs, v = .ref a ∧ a ∉ L ∧ H0 a = none ∧ H a = some (.lst vs) ∧ Reps c (a :: L) H ds vs
  | .dK ks ds, v => ∃ a vs, v = .ref a ∧ a ∉ L ∧ H0 a = none ∧ H a = some (.dK (ks.zip vs)) ∧ ks.length = ds.length ∧ Reps c (a :: L) H ds vs
  | .ins k ns ds, v => ∃ a dx vs, v = .ref a ∧ a ∉ L ∧ H0 a = none ∧ H a = some (.ins (c.cls k) dx (ns.zip vs)) ∧ ns.length = ds.length ∧ Reps c (a :: L) H ds vs
  | d, v => Rep c L H d v
theorem RepF.keep {c : RC} {L : List Addr} {H0 H : Hp} {d : D} {v : V} (h : RepF c L H0 H d v) : Rep c L H d v := by
  cases d with
  | lst ds => obtain ⟨a, vs, e1, n, _, t, r⟩ := h; exact ⟨a, vs, e1, n, t, Reps.sub (fun x hx => List.mem_cons_of_mem _ hx) _ _ r⟩
  | dK ks ds => obtain ⟨a, vs, e1, n, _, t, l, r⟩ := h; exact ⟨a, vs, e1, n, t, l, Reps.sub (fun x hx => List.mem_cons_of_mem _ hx) _ _ r⟩
  | ins k ns ds => obtain ⟨a, dx, vs, e1, n, _, t, l, r⟩ := h; exact ⟨a, dx, vs, e1, n, t, l, Reps.sub (fun x hx => List.mem_cons_of_mem _ hx) _ _ r⟩
  | _ => exact h
theorem RepF.back {c : RC} {L : List Addr} {H0 H1 H : Hp} (f : ∀ a, a ∉ L → H1 a = none → H0 a = none) {d : D} {v : V} (h : RepF c L H1 H d v) : RepF c L H0 H d v := by
  cases d with
  | lst ds => obtain ⟨a, vs, e1, n, z, t, r⟩ := h; exact ⟨a, vs, e1, n, f a n z, t, r⟩
  | dK ks ds => obtain ⟨a, vs, e1, n, z, t, l, r⟩ := h; exact ⟨a, vs, e1, n, f a n z, t, l, r⟩
  | ins k ns ds => obtain ⟨a, dx, vs, e1, n, z, t, l, r⟩ := h; exact ⟨a, dx, vs, e1, n, f a n z, t, l, r⟩
  | _ => exact h
theorem RepF.of {c : RC} {L : List Addr} {H0 H : Hp} {d : D} {v : V} (h : Rep c L H d v) (n : isMut d = false) : RepF c L H0 H d v := by
  cases d <;> first | exact h | cases n
theorem RepF.ex {c : RC} {L : List Addr} {H0 H H' : Hp} (hJ : InJ c L) (e : ExS c.Js H H') {d : D} {v : V} (h : RepF c L H0 H d v) : RepF c L H0 H' d v := by
  have hs : ∀ x ∈ c.Js, x ∈ L := hJ
  have at' : ∀ {a : Addr} {o : HO}, a ∉ L → H a = some o → H' a = some o := fun n t => e _ _ (fun q => n (hs _ q)) t
  cases d with
  | lst ds => obtain ⟨a, vs, e1, n, z, t, r⟩ := h; exact ⟨a, vs, e1, n, z, at' n t, Reps.exS (fun x hx => List.mem_cons_of_mem _ (hs x hx)) e _ _ r⟩
  | dK ks ds => obtain ⟨a, vs, e1, n, z, t, l, r⟩ := h; exact ⟨a, vs, e1, n, z, at' n t, l, Reps.exS (fun x hx => List.mem_cons_of_mem _ (hs x hx)) e _ _ r⟩
  | ins k ns ds => obtain ⟨a, dx, vs, e1, n, z, t, l, r⟩ := h; exact ⟨a, dx, vs, e1, n, z, at' n t, l, Reps.exS (fun x hx => List.mem_cons_of_mem _ (hs x hx)) e _ _ r⟩
  | tup ds => exact Rep.exS hs e (.tup ds) _ h
  | set ns => exact Rep.exS (c := c) hs e (.set ns) _ h
  | scr ns => exact Rep.exS (c := c) hs e (.scr ns) _ h
  | _ => exact h
def RepM (m : Md) (c : RC) (L : List Addr) (H0 H : Hp) (d : D) (v : V) : Prop := match m with
  | .look => RepB c L H d v
  | .keep => Rep c L H d v
  | .fresh => RepF c L H0 H d v
theorem RepM.b {m : Md} {c : RC} {L : List Addr} {H0 H : Hp} (hJ : InJ c L) {d : D} {v : V} (h : RepM m c L H0 H d v) : RepB c L H d v := by
  cases m with
  | keep => exact Rep.b hJ h
  | look => exact h
  | fresh => exact Rep.b hJ (RepF.keep h)
/-- what cannot be changed may be given in every mode -/
theorem RepM.of {m : Md} {c : RC} {L : List Addr} {H0 H : Hp} (hJ : InJ c L) {d : D} {v : V} (h : Rep c L H d v) (n : isMut d = false) : RepM m c L H0 H d v := by
  cases m with
  | keep => exact h
  | look => exact Rep.b hJ h
  | fresh => exact RepF.of h n
theorem RepM.ofF {m : Md} {c : RC} {L : List Addr} {H0 H : Hp} (hJ : InJ c L) {d : D} {v : V} (h : RepF c L H0 H d v) : RepM m c L H0 H d v := by
  cases m with
  | keep => exact h.keep
  | look => exact Rep.b hJ h.keep
  | fresh => exact h
/-- behind an expression: all but the jar stands -/
abbrev Ex (c : RC) (H H' : Hp) : Prop := ExS c.Js H H'
theorem mem1 {a : Addr} {L : List Addr} (h : a ∈ L) : ∀ x ∈ [a], x ∈ L := fun x hx => by
  have e : x = a := by simpa using hx
  subst e; exact h
theorem Ex.at {c : RC} {H H' : Hp} (e : Ex c H H') {a : Addr} {o : HO} (n : a ∉ c.Js) (h : H a = some o) : H' a = some o := e a o n h
theorem RepB.ex {c : RC} {L : List Addr} {H H' : Hp} (hJ : InJ c L) (e : Ex c H H') {d : D} {v : V} (h : RepB c L H d v) : RepB c L H' d v := by
  cases d with
  | lst ds => obtain ⟨a, vs, e1, n, t, r⟩ := h; exact ⟨a, vs, e1, n, e.at n t, Reps.exS (hJ) e _ _ r⟩
  | dK ks ds => obtain ⟨a, vs, e1, n, t, l, r⟩ := h; exact ⟨a, vs, e1, n, e.at n t, l, Reps.exS (hJ) e _ _ r⟩
  | ins k ns ds => obtain ⟨a, dx, vs, e1, n, t, l, r⟩ := h; exact ⟨a, dx, vs, e1, n, e.at n t, l, Reps.exS (hJ) e _ _ r⟩
  | tup ds => exact Rep.exS (hJ) e (.tup ds) _ h
  | set ns => exact Rep.exS (c := c) (hJ) e (.set ns) _ h
  | scr ns => exact Rep.exS (c := c) (hJ) e (.scr ns) _ h
  | _ => exact h
theorem Rep.ex {c : RC} {L : List Addr} {H H' : Hp} (hJ : InJ c L) (e : Ex c H H') {d : D} {v : V} (h : Rep c L H d v) : Rep c L H' d v := Rep.exS (hJ) e d v h
theorem Reps.ex {c : RC} {L : List Addr} {H H' : Hp} (hJ : InJ c L) (e : Ex c H H') {ds : List D} {vs : List V} (h : Reps c L H ds vs) : Reps c L H' ds vs := Reps.exS (hJ) e ds vs h
theorem RepM.ex {m : Md} {c : RC} {L : List Addr} {H0 H H' : Hp} (hJ : InJ c L) (e : Ex c H H') {d : D} {v : V} (h : RepM m c L H0 H d v) : RepM m c L H0 H' d v := by
  cases m with
  | keep => exact Rep.ex hJ e h
  | look => exact RepB.ex hJ e h
  | fresh => exact RepF.ex hJ e h
/-! ### the state of a def: its slots -/
/-- a slot: not known; a value; one of the def's own lists, dicts, instances under work -/
inductive Sl where
  | no
  | val (d : D)
  | own (ds : List D)
  | ownD (ks : List Key) (ds : List D)
  | ownI (k : Nat) (ns : List Str) (ds : List D)
abbrev Env := List Sl
def Sl.isOwn : Sl → Bool
  | .own _ => true
  | .ownD _ _ => true
  | .ownI _ _ _ => true
  | _ => false
def SlR (c : RC) (L O : List Addr) (H : Hp) : Sl → Option V → Prop
  | .no, _ => True
  | .val d, o => ∃ v, o = some v ∧ Rep c L H d v
  | .own ds, o => ∃ a vs, o = some (.ref a) ∧ a ∈ O ∧ H a = some (.lst vs) ∧ Reps c L H ds vs
  | .ownD ks ds, o => ∃ a vs, o = some (.ref a) ∧ a ∈ O ∧ H a = some (.dK (ks.zip vs)) ∧ ks.length = ds.length ∧ Reps c L H ds vs
  | .ownI k ns ds, o => ∃ a dx vs, o = some (.ref a) ∧ a ∈ O ∧ H a = some (.ins (c.cls k) dx (ns.zip vs)) ∧ (ns.length = ds.length ∧ a = c.S) ∧ Reps c L H ds vs
def JarAt (c : RC) (H : Hp) (j : List Int) : Prop := c.has = true → H c.J = some (.lst (j.map V.int))
theorem JarAt.same {c : RC} {H H' : Hp} {j : List Int} (h : JarAt c H j) (e : ∀ x ∈ c.Js, H' x = H x) : JarAt c H' j := fun hh => by
  rw [e c.J (RC.mem_Js.mpr ⟨hh, rfl⟩)]; exact h hh
structure Rel (c : RC) (B O : List Addr) (ρ : Env) (j : List Int) (σ : St) (H : Hp) : Prop where
  len : σ.length = ρ.length
  sl : ∀ (i : Nat) (s : Sl) (o : Option V), ρ[i]? = some s → σ[i]? = some o → SlR c (O ++ B) O H s o
  inj : ∀ (i k : Nat) (s t : Sl) (a : Addr), ρ[i]? = some s → ρ[k]? = some t → s.isOwn = true → t.isOwn = true → σ[i]? = some (some (.ref a)) → σ[k]? = some (some (.ref a)) → i = k
  jar : JarAt c H j
  jB : InJ c B
  dom : ∀ a ∈ O ++ B, H a ≠ none
  disj : ∀ a ∈ O, a ∉ B
theorem Rel.jL {c : RC} {B O : List Addr} {ρ : Env} {j : List Int} {σ : St} {H : Hp} (r : Rel c B O ρ j σ H) : InJ c (O ++ B) := fun x hx => List.mem_append_right _ (r.jB x hx)
theorem Rel.jO {c : RC} {B O : List Addr} {ρ : Env} {j : List Int} {σ : St} {H : Hp} (r : Rel c B O ρ j σ H) : ∀ x ∈ c.Js, x ∉ O := fun x hx h => r.disj _ h (r.jB x hx)
theorem Rel.oJ {c : RC} {B O : List Addr} {ρ : Env} {j : List Int} {σ : St} {H : Hp} (r : Rel c B O ρ j σ H) {a : Addr} (h : a ∈ O) : a ∉ c.Js := fun e => r.jO a e h
theorem SlR.exS {c : RC} {L O S : List Addr} {H H' : Hp} {s : Sl} {o : Option V} (hs : ∀ x ∈ S, x ∈ L) (ho : ∀ x ∈ O, x ∉ S) (e : ExS S H H') (h : SlR c L O H s o) : SlR c L O H' s o := by
  cases s with
  | no => trivial
  | val d => obtain ⟨v, e1, r⟩ := h; exact ⟨v, e1, Rep.exS hs e d v r⟩
  | own ds => obtain ⟨a, vs, e1, m, t, r⟩ := h; exact ⟨a, vs, e1, m, e a _ (ho a m) t, Reps.exS hs e ds vs r⟩
  | ownD ks ds => obtain ⟨a, vs, e1, m, t, l, r⟩ := h; exact ⟨a, vs, e1, m, e a _ (ho a m) t, l, Reps.exS hs e ds vs r⟩
  | ownI k ns ds => obtain ⟨a, dx, vs, e1, m, t, l, r⟩ := h; exact ⟨a, dx, vs, e1, m, e a _ (ho a m) t, l, Reps.exS hs e ds vs r⟩
theorem Rel.ex {c : RC} {B O : List Addr} {ρ : Env} {j j' : List Int} {σ : St} {H H' : Hp} (r : Rel c B O ρ j σ H) (e : Ex c H H') (hj : JarAt c H' j') : Rel c B O ρ j' σ H' where
  len := r.len
  sl := fun i s o h1 h2 => (r.sl i s o h1 h2).exS (r.jL) (fun x hx => r.oJ hx) e
  inj := r.inj
  jar := hj
  jB := r.jB
  dom := fun a ha h0 => by
    by_cases q : a ∈ c.Js
    · obtain ⟨hh, q⟩ := RC.mem_Js.mp q
      subst q; rw [hj hh] at h0; cases h0
    · cases h : H a with
      | none => exact r.dom a ha h
      | some o => rw [e.at q h] at h0; cases h0
  disj := r.disj
/-! ### what is wanted behind an expression, by its mirror's end -/
def Out (m : Md) (c : RC) (L : List Addr) (W : WX) (σ : St) (H : Hp) (Q : VK) : Res D → Prop
  | .ok d j => ∀ v H', Ex c H H' → JarAt c H' j → RepM m c L H H' d v → Q v H'
  | .exc k g j => ∀ (dx : Addr) (H' : Hp) (v : V), Ex c H H' → JarAt c H' j → Rep c L H' g v → H' dx = some (.xd [(c.att k, v)]) → W (.ref (c.cls k)) (some dx) σ H'
  | .stk => False
theorem Ex.free {c : RC} {H H' : Hp} (e : Ex c H H') {j : List Int} (hj : JarAt c H j) {p : Addr} (h : H' p = none) (hj' : ∃ j', JarAt c H' j') : H p = none := by
  cases q : H p with
  | none => rfl
  | some o =>
    by_cases z : p ∈ c.Js
    · obtain ⟨hh, z⟩ := RC.mem_Js.mp z
      subst z; obtain ⟨j', h'⟩ := hj'; rw [h' hh] at h; cases h
    · rw [e.at z q] at h; cases h
theorem Out.ex {m : Md} {c : RC} {L : List Addr} {W : WX} {σ : St} {H H1 : Hp} {Q : VK} {j j1 : List Int} (e : Ex c H H1) (hj : JarAt c H j) (hj1 : JarAt c H1 j1) {r : Res D} (h : Out m c L W σ H Q r) : Out m c L W σ H1 Q r := by
  cases r with
  | ok d j =>
    refine fun v H' e' hj' rp => h v H' (e.trans e') hj' ?_
    cases m with
    | look => exact rp
    | keep => exact rp
    | fresh =>
      have fr : ∀ {a : Addr}, H1 a = none → H a = none := fun z => e.free hj z ⟨_, hj1⟩
      cases d with
      | lst ds => obtain ⟨a, vs, e1, n, z, t, r⟩ := rp; exact ⟨a, vs, e1, n, fr z, t, r⟩
      | dK ks ds => obtain ⟨a, vs, e1, n, z, t, l, r⟩ := rp; exact ⟨a, vs, e1, n, fr z, t, l, r⟩
      | ins k ns ds => obtain ⟨a, dx, vs, e1, n, z, t, l, r⟩ := rp; exact ⟨a, dx, vs, e1, n, fr z, t, l, r⟩
      | _ => exact rp
  | exc k g j' => exact fun dx H' v e' hj' rp x => h dx H' v (e.trans e') hj' rp x
  | stk => exact h
/-- an expression's reading by its mirror -/
def rd (m : Md) (c : RC) (B : List Addr) (W : WX) (me : Env → M D) : TE := fun σ H Q => ∃ O ρ j, Rel c B O ρ j σ H ∧ Out m c (O ++ B) W σ H Q (me ρ j)
/-- one part of an expression -/
theorem rd_bnd {m m' : Md} {c : RC} {B O : List Addr} {W : WX} {ρ : Env} {j : List Int} {σ : St} {H : Hp} {Q P : VK} {ma : Env → M D} {k : D → M D} (rel : Rel c B O ρ j σ H)
    (out : Out m c (O ++ B) W σ H Q (bnd (ma ρ) k j))
    (hP : ∀ d j1 v H1, Rel c B O ρ j1 σ H1 → Ex c H H1 → RepM m' c (O ++ B) H H1 d v → Out m c (O ++ B) W σ H1 Q (k d j1) → P v H1) : rd m' c B W ma σ H P := by
  refine ⟨O, ρ, j, rel, ?_⟩
  unfold bnd at out
  cases q : ma ρ j with
  | ok d j1 =>
    rw [q] at out
    exact fun v H1 e hj rp => hP d j1 v H1 (rel.ex e hj) e rp (out.ex e rel.jar hj)
  | exc k g j' => rw [q] at out; exact out
  | stk => rw [q] at out; exact out.elim
/-- a judgement of expressions -/
abbrev ME (X : Cx) (m : Md) (c : RC) (B : List Addr) (W : WX) (e : Expr) (me : Env → M D) : Prop := PE X e (rd m c B W me)
section
variable {X : Cx} {m : Md} {c : RC} {B : List Addr} {W : WX} {e a b : Expr} {me ma mb : Env → M D} {pos : Pos}
theorem me_mono {t : TE} (h : PE X e t) (hh : ∀ σ H Q, rd m c B W me σ H Q → t σ H Q) : ME X m c B W e me := ⟨fun pins s σ H Q I hq => h.run pins s σ H Q I (hh σ H Q hq)⟩
/-- what may be kept may be looked at -/
theorem me_look (h : ME X .keep c B W e me) : ME X .look c B W e me := me_mono h fun σ H Q ⟨O, ρ, j, rel, out⟩ => ⟨O, ρ, j, rel, by
  cases q : me ρ j with
  | ok d j1 => rw [q] at out; exact fun v H1 e1 hj rp => out v H1 e1 hj (Rep.b rel.jL rp)
  | exc k g j' => rw [q] at out; exact out
  | stk => rw [q] at out; exact out⟩
/-! ### names and constants -/
/-- a slot's value, by the mode -/
def slVal : Md → Option Sl → Option D
  | .fresh, some (.val d) => if isMut d = true then none else some d
  | _, some (.val d) => some d
  | .look, some (.own ds) => some (.lst ds)
  | .look, some (.ownD ks ds) => some (.dK ks ds)
  | .look, some (.ownI k ns ds) => some (.ins k ns ds)
  | _, _ => none
def mVar (m : Md) (i : Nat) : Env → M D := fun ρ => match slVal m ρ[i]? with
  | some d => ret d
  | none => stuck
theorem Rel.var {O : List Addr} {ρ : Env} {j : List Int} {σ : St} {H H0 : Hp} {i : Nat} {d : D} (r : Rel c B O ρ j σ H) (h : slVal m ρ[i]? = some d) : ∃ v, σ[i]? = some (some v) ∧ RepM m c (O ++ B) H0 H d v := by
  cases q : ρ[i]? with
  | none => rw [q] at h; cases m <;> cases h
  | some s =>
    have hi : i < σ.length := by rw [r.len]; exact (List.getElem?_eq_some_iff.mp q).1
    have hs := r.sl i s σ[i] q (by simp [hi])
    have hg : σ[i]? = some σ[i] := by simp [hi]
    rw [q] at h
    cases s with
    | no => cases m <;> cases h
    | val d' =>
      obtain ⟨v, e1, rp⟩ := hs
      refine ⟨v, by rw [hg, e1], ?_⟩
      cases m with
      | look => cases h; exact Rep.b r.jL rp
      | keep => cases h; exact rp
      | fresh =>
        by_cases z : isMut d' = true
        · have h : (if isMut d' = true then none else some d') = some d := h
          rw [if_pos z] at h; cases h
        · have h : (if isMut d' = true then none else some d') = some d := h
          rw [if_neg z] at h; cases h
          exact RepF.of rp (by simpa using z)
    | own ds =>
      cases m with
      | keep => cases h
      | fresh => cases h
      | look =>
        cases h
        obtain ⟨a, vs, e1, mm, t, rp⟩ := hs
        exact ⟨.ref a, by rw [hg, e1], ⟨a, vs, rfl, r.oJ mm, t, rp⟩⟩
    | ownD ks ds =>
      cases m with
      | keep => cases h
      | fresh => cases h
      | look =>
        cases h
        obtain ⟨a, vs, e1, mm, t, l, rp⟩ := hs
        exact ⟨.ref a, by rw [hg, e1], ⟨a, vs, rfl, r.oJ mm, t, l, rp⟩⟩
    | ownI k ns ds =>
      cases m with
      | keep => cases h
      | fresh => cases h
      | look =>
        cases h
        obtain ⟨a, dx, vs, e1, mm, t, l, rp⟩ := hs
        exact ⟨.ref a, by rw [hg, e1], ⟨a, dx, vs, rfl, r.oJ mm, t, l.1, rp⟩⟩
theorem Out.now {O : List Addr} {ρ : Env} {j : List Int} {σ : St} {H : Hp} {Q : VK} {d : D} {v : V} (r : Rel c B O ρ j σ H) (h : Out m c (O ++ B) W σ H Q (.ok d j)) (rp : RepM m c (O ++ B) H H d v) : Q v H := h v H ExS.refl r.jar rp
theorem me_var {i : Nat} {x : Str} {pos : Pos} (hN : X.N[i]? = some x := by rfl) (hv : Vis X.env.scope x := by first | exact Or.inl rfl | exact Or.inr (Or.inl rfl) | exact Or.inr (Or.inr rfl)) (hd : (x == ("__debug__" : Str)) = false := by decide)
    (hcd : (x == ("__classdict__" : Str)) = false := by decide) : ME X m c B W (.Name x pos) (mVar m i) := me_mono (pe_var hN hv hd hcd) fun σ H Q ⟨O, ρ, j, rel, out⟩ => by
  unfold mVar at out
  cases q : slVal m ρ[i]? with
  | none => rw [q] at out; exact out.elim
  | some d =>
    rw [q] at out
    obtain ⟨v, e1, rp⟩ := rel.var (H0 := H) q
    exact ⟨v, e1, out.now rel rp⟩
def mC (d : D) : Env → M D := fun _ => ret d
theorem me_int {i j pos} : ME X m c B W (.Constant (.int i) j pos) (mC (.int i)) := me_mono pe_int fun σ H Q ⟨O, ρ, j, rel, out⟩ => out.now rel (RepM.of rel.jL rfl rfl)
theorem me_bl {b j pos} : ME X m c B W (.Constant (.bool b) j pos) (mC (.bl b)) := me_mono pe_bl fun σ H Q ⟨O, ρ, j, rel, out⟩ => out.now rel (RepM.of rel.jL rfl rfl)
theorem me_non {j pos} : ME X m c B W (.Constant .none j pos) (mC .non) := me_mono pe_non fun σ H Q ⟨O, ρ, j, rel, out⟩ => out.now rel (RepM.of rel.jL rfl rfl)
theorem me_str {x j pos} : ME X m c B W (.Constant (.str x) j pos) (mC (.str x)) := me_mono pe_str fun σ H Q ⟨O, ρ, j, rel, out⟩ => out.now rel (RepM.of rel.jL rfl rfl)
/-- a module's constant -/
def GRep (c : RC) (mg : Str → Option Value) (x : Str) (d : D) : Prop := ∃ u v, mg x = some u ∧ RelV v u ∧ ∀ L H, Rep c L H d v
theorem me_glob {x : Str} {d : D} {pos : Pos} (G : GRep c X.mg x d) (n : isMut d = false := by rfl) (hg : Gl X x := by rfl) (hd : (x == ("__debug__" : Str)) = false := by decide) : ME X m c B W (.Name x pos) (mC d) := by
  obtain ⟨u, v, e, r, g⟩ := G
  exact me_mono (pe_glob hg e r hd) fun σ H Q ⟨O, ρ, j, rel, out⟩ => out.now rel (RepM.of rel.jL (g _ _) n)
/-! ### operators -/
/-- a rule by values and its mirror -/
def Ok2 (m : Md) (c : RC) (r : R2) (m1 m2 : Md) (f : D → D → M D) : Prop := ∀ (B O : List Addr) (W : WX) (ρ : Env) (j : List Int) (σ : St) (H : Hp) (Q : VK) (x y : D) (v w : V),
  Rel c B O ρ j σ H → (∃ H0, RepM m1 c (O ++ B) H0 H x v) → (∃ H0, RepM m2 c (O ++ B) H0 H y w) → Out m c (O ++ B) W σ H Q (f x y j) → r v w H Q
def mBin (f : D → D → M D) (ma mb : Env → M D) : Env → M D := fun ρ => bnd (ma ρ) fun x => bnd (mb ρ) fun y => f x y
theorem tOp_of {m1 m2 : Md} {r : R2} {f : D → D → M D} (hr : Ok2 m c r m1 m2 f) {σ : St} {H : Hp} {Q : VK} (h : rd m c B W (mBin f ma mb) σ H Q) : tOp r (rd m1 c B W ma) (rd m2 c B W mb) σ H Q := by
  obtain ⟨O, ρ, j, rel, out⟩ := h
  refine rd_bnd (m := m) (m' := m1) (k := fun x => bnd (mb ρ) fun y => f x y) rel out fun x j1 v H1 rel1 e1 rp1 out1 => ?_
  refine rd_bnd (m := m) (m' := m2) (k := fun y => f x y) rel1 out1 fun y j2 w H2 rel2 e2 rp2 out2 => ?_
  exact hr B O W ρ j2 σ H2 Q x y v w rel2 ⟨_, rp1.ex rel.jL e2⟩ ⟨_, rp2⟩ out2
theorem me_op {m1 m2 : Md} {op : Operator} {r : R2} {f : D → D → M D} (ho : OpR X (binaryOp op) r) (hr : Ok2 m c r m1 m2 f) (ha : ME X m1 c B W a ma) (hb : ME X m2 c B W b mb) : ME X m c B W (.BinOp a op b pos) (mBin f ma mb) :=
  me_mono (pe_op ho ha hb) fun _ _ _ h => tOp_of hr h
theorem me_cmp {m1 m2 : Md} {op : CmpOp} {r : R2} {f : D → D → M D} (ho : OpR X (compareOp op) r) (hr : Ok2 m c r m1 m2 f) (ha : ME X m1 c B W a ma) (hb : ME X m2 c B W b mb) (hm : behindInMarks op b = false) :
    ME X m c B W (.Compare a [op] [b] pos) (mBin f ma mb) := me_mono (pe_cmpR ho ha hb hm) fun _ _ _ h => tOp_of hr h
end
end Mir
set_option Elab.async false
set_option linter.all false
set_option maxRecDepth 100000
set_option maxHeartbeats 4000000
/-! Mir1: arguments, tests, operators, subscripts, slices, displays, built-in functions by mirrors. -/
namespace Mir
open PySem L2
abbrev LIM : Nat := 16777216
theorem lim_eq : LIM = sizeLine := sizeLine_eq.symm
theorem lim_le {n : Nat} (h : n ≤ LIM) : n ≤ sizeLine := lim_eq ▸ h
theorem lim_lt {n : Nat} (h : n < LIM) : n < sizeLine := lim_eq ▸ h
section
variable {X : Cx} {m : Md} {c : RC} {B O L : List Addr} {W : WX} {e a b : Expr} {me ma mb : Env → M D} {pos : Pos} {σ : St} {H H' : Hp} {Q : VK} {ρ : Env} {j : List Int}
/-! ### how an answer is given -/
theorem Out.val {d : D} {v : V} (r : Rel c B O ρ j σ H) (h : Out m c (O ++ B) W σ H Q (ret d j)) (rp : Rep c (O ++ B) H d v) (n : isMut d = false := by rfl) : Q v H := h v H ExS.refl r.jar (RepM.of r.jL rp n)
theorem Rel.fresh (r : Rel c B O ρ j σ H) {p : Addr} (hp : H p = none) : p ∉ O ++ B := fun h => r.dom p h hp
theorem Rel.neJ (r : Rel c B O ρ j σ H) {p : Addr} (hp : H p = none) : p ∉ c.Js := fun e => by
  obtain ⟨hh, e⟩ := RC.mem_Js.mp e
  have h := r.jar hh
  rw [← e, hp] at h
  cases h
theorem JarAt.new (r : JarAt c H j) {p : Addr} {o : HO} (hp : H p = none) : JarAt c (upd H p o) j := fun hh => by
  rw [upd_ne (ne_of_none (r hh) hp)]
  exact r hh
/-- a new list -/
theorem Out.newL {ds : List D} {vs : List V} (r : Rel c B O ρ j σ H) (h : Out m c (O ++ B) W σ H Q (ret (.lst ds) j)) (rp : Reps c (O ++ B) H ds vs) {p : Addr} (hp : H p = none) : Q (.ref p) (upd H p (.lst vs)) :=
  h (.ref p) _ (ExS.new hp) (r.jar.new hp) (RepM.ofF r.jL ⟨p, vs, rfl, r.fresh hp, hp, upd_same, Reps.exS (S := []) (fun _ z => nomatch z) (ExS.new hp) _ _ (Reps.add hp _ _ rp)⟩)
/-- a new tuple -/
theorem Out.newT {ds : List D} {vs : List V} (r : Rel c B O ρ j σ H) (h : Out m c (O ++ B) W σ H Q (ret (.tup ds) j)) (rp : Reps c (O ++ B) H ds vs) : NewT H vs Q := fun p o ho hp =>
  h (.ref p) _ (ExS.new hp) (r.jar.new hp) (RepM.of r.jL ⟨p, vs, rfl, .inl ⟨r.fresh hp, o, upd_same, ho⟩, Reps.exS (S := []) (fun _ z => nomatch z) (ExS.new hp) _ _ rp⟩ rfl)
theorem RepB.lst {ds : List D} {v : V} (h : RepB c L H (.lst ds) v) : ∃ a vs, v = .ref a ∧ H a = some (.lst vs) ∧ Reps c L H ds vs := let ⟨a, vs, e1, _, t, r⟩ := h; ⟨a, vs, e1, t, r⟩
theorem RepB.tup {ds : List D} {v : V} (h : RepB c L H (.tup ds) v) : ∃ a vs, v = .ref a ∧ SqT c.K H a vs ∧ Reps c L H ds vs := let ⟨a, vs, e1, t, r⟩ := h; ⟨a, vs, e1, t.sq, r⟩
/-! ### arguments that may be kept -/
def OutA (c : RC) (L : List Addr) (W : WX) (σ : St) (H : Hp) (Q : List V → Hp → Prop) : Res (List D) → Prop
  | .ok ds j => ∀ vs H', Ex c H H' → JarAt c H' j → Reps c L H' ds vs → Q vs H'
  | .exc k g j => Out .keep c L W σ H (fun _ _ => True) (.exc k g j)
  | .stk => False
def rdA (c : RC) (B : List Addr) (W : WX) (ma : Env → M (List D)) : TA := fun σ H Q => ∃ O ρ j, Rel c B O ρ j σ H ∧ OutA c (O ++ B) W σ H Q (ma ρ j)
abbrev MA (X : Cx) (c : RC) (B : List Addr) (W : WX) (es : List Expr) (ma : Env → M (List D)) : Prop := PA X es (rdA c B W ma)
theorem OutA.ex {H1 : Hp} {Q : List V → Hp → Prop} {j j1 : List Int} (e : Ex c H H1) (hj : JarAt c H j) (hj1 : JarAt c H1 j1) {r : Res (List D)} (h : OutA c L W σ H Q r) : OutA c L W σ H1 Q r := by
  cases r with
  | ok d j => exact fun v H' e' hj rp => h v H' (e.trans e') hj rp
  | exc k g j' => exact Out.ex (m := .keep) (Q := fun _ _ => True) e hj hj1 (show Out .keep c L W σ H (fun _ _ => True) (.exc k g j') from h)
  | stk => exact h
theorem rdA_bnd {m m' : Md} {P : List V → Hp → Prop} {ma : Env → M (List D)} {k : List D → M D} (rel : Rel c B O ρ j σ H) (out : Out m c (O ++ B) W σ H Q (bnd (ma ρ) k j))
    (hP : ∀ ds j1 vs H1, Rel c B O ρ j1 σ H1 → Ex c H H1 → Reps c (O ++ B) H1 ds vs → Out m c (O ++ B) W σ H1 Q (k ds j1) → P vs H1) : rdA c B W ma σ H P := by
  refine ⟨O, ρ, j, rel, ?_⟩
  unfold bnd at out
  cases q : ma ρ j with
  | ok d j1 =>
    rw [q] at out
    exact fun v H1 e hj rp => hP d j1 v H1 (rel.ex e hj) e rp (out.ex e rel.jar hj)
  | exc k g j' => rw [q] at out; exact out
  | stk => rw [q] at out; exact out.elim
def mNil : Env → M (List D) := fun _ => ret []
def mCons (me : Env → M D) (ma : Env → M (List D)) : Env → M (List D) := fun ρ => bnd (me ρ) fun x => bnd (ma ρ) fun xs => ret (x :: xs)
theorem pa_mono {es : List Expr} {t : TA} {ma : Env → M (List D)} (h : PA X es t) (hh : ∀ σ H Q, rdA c B W ma σ H Q → t σ H Q) : MA X c B W es ma := ⟨fun pos pins s σ H Q I hq => h.run pos pins s σ H Q I (hh σ H Q hq)⟩
theorem ma_nil : MA X c B W [] mNil := pa_mono pa_nil fun σ H Q ⟨O, ρ, j, rel, out⟩ => out [] H ExS.refl rel.jar rfl
theorem ma_cons {es : List Expr} {ml : Env → M (List D)} (he : ME X .keep c B W e me) (hs : MA X c B W es ml) (h : starEach (e :: es) X.env = (false, eval e X.env) :: starEach es X.env := by rfl) : MA X c B W (e :: es) (mCons me ml) :=
  pa_mono (pa_cons he hs h) fun σ H Q ⟨O, ρ, j, rel, out⟩ => by
    unfold mCons at out
    refine ⟨O, ρ, j, rel, ?_⟩
    unfold bnd at out
    cases q : me ρ j with
    | ok d j1 =>
      rw [q] at out
      refine fun v H1 e1 hj1 rp1 => ⟨O, ρ, j1, rel.ex e1 hj1, ?_⟩
      cases q2 : ml ρ j1 with
      | ok ds j2 =>
        dsimp only at out
        rw [q2] at out
        exact fun vs H2 e2 hj2 rp2 => out (v :: vs) H2 (e1.trans e2) hj2 (Reps.cons (Rep.ex rel.jL e2 rp1) rp2)
      | exc k g j' =>
        dsimp only at out
        rw [q2] at out
        exact Out.ex (m := .keep) (Q := fun _ _ => True) e1 rel.jar hj1 (show Out .keep c (O ++ B) W σ H (fun _ _ => True) (.exc k g j') from out)
      | stk =>
        dsimp only at out
        rw [q2] at out; exact out
    | exc k g j' => rw [q] at out; exact out
    | stk => rw [q] at out; exact out
/-! ### tests -/
def OutT (c : RC) (L : List Addr) (W : WX) (σ : St) (H : Hp) (Q : Bool → Hp → Prop) : Res Bool → Prop
  | .ok b j => ∀ H', Ex c H H' → JarAt c H' j → Q b H'
  | .exc k g j => Out .keep c L W σ H (fun _ _ => True) (.exc k g j)
  | .stk => False
def rdT (c : RC) (B : List Addr) (W : WX) (mt : Env → M Bool) : TT := fun σ H Q => ∃ O ρ j, Rel c B O ρ j σ H ∧ OutT c (O ++ B) W σ H Q (mt ρ j)
abbrev MT (X : Cx) (c : RC) (B : List Addr) (W : WX) (e : Expr) (mt : Env → M Bool) : Prop := PT X e (rdT c B W mt)
abbrev MW (X : Cx) (c : RC) (B : List Addr) (W : WX) (e : Expr) (mt : Env → M Bool) : Prop := PW X e (rdT c B W mt)
theorem OutT.ex {H1 : Hp} {Q : Bool → Hp → Prop} {j j1 : List Int} (e : Ex c H H1) (hj : JarAt c H j) (hj1 : JarAt c H1 j1) {r : Res Bool} (h : OutT c L W σ H Q r) : OutT c L W σ H1 Q r := by
  cases r with
  | ok d j => exact fun H' e' hj => h H' (e.trans e') hj
  | exc k g j' => exact Out.ex (m := .keep) (Q := fun _ _ => True) e hj hj1 (show Out .keep c L W σ H (fun _ _ => True) (.exc k g j') from h)
  | stk => exact h
/-- an expression within a test -/
theorem rd_bndT {m' : Md} {P : VK} {Q : Bool → Hp → Prop} {k : D → M Bool} (rel : Rel c B O ρ j σ H) (out : OutT c (O ++ B) W σ H Q (bnd (ma ρ) k j))
    (hP : ∀ d j1 v H1, Rel c B O ρ j1 σ H1 → Ex c H H1 → RepM m' c (O ++ B) H H1 d v → OutT c (O ++ B) W σ H1 Q (k d j1) → P v H1) : rd m' c B W ma σ H P := by
  refine ⟨O, ρ, j, rel, ?_⟩
  unfold bnd at out
  cases q : ma ρ j with
  | ok d j1 =>
    rw [q] at out
    exact fun v H1 e hj rp => hP d j1 v H1 (rel.ex e hj) e rp (out.ex e rel.jar hj)
  | exc k g j' => rw [q] at out; exact out
  | stk => rw [q] at out; exact out.elim
/-- a test within a test, within an expression -/
theorem rdT_bndT {P : Bool → Hp → Prop} {Q : Bool → Hp → Prop} {mt : Env → M Bool} {k : Bool → M Bool} (rel : Rel c B O ρ j σ H) (out : OutT c (O ++ B) W σ H Q (bnd (mt ρ) k j))
    (hP : ∀ b j1 H1, Rel c B O ρ j1 σ H1 → Ex c H H1 → OutT c (O ++ B) W σ H1 Q (k b j1) → P b H1) : rdT c B W mt σ H P := by
  refine ⟨O, ρ, j, rel, ?_⟩
  unfold bnd at out
  cases q : mt ρ j with
  | ok d j1 =>
    rw [q] at out
    exact fun H1 e hj => hP d j1 H1 (rel.ex e hj) e (out.ex e rel.jar hj)
  | exc k g j' => rw [q] at out; exact out
  | stk => rw [q] at out; exact out.elim
theorem rdT_bnd {P : Bool → Hp → Prop} {mt : Env → M Bool} {k : Bool → M D} (rel : Rel c B O ρ j σ H) (out : Out m c (O ++ B) W σ H Q (bnd (mt ρ) k j))
    (hP : ∀ b j1 H1, Rel c B O ρ j1 σ H1 → Ex c H H1 → Out m c (O ++ B) W σ H1 Q (k b j1) → P b H1) : rdT c B W mt σ H P := by
  refine ⟨O, ρ, j, rel, ?_⟩
  unfold bnd at out
  cases q : mt ρ j with
  | ok d j1 =>
    rw [q] at out
    exact fun H1 e hj => hP d j1 H1 (rel.ex e hj) e (out.ex e rel.jar hj)
  | exc k g j' => rw [q] at out; exact out
  | stk => rw [q] at out; exact out.elim
theorem mt_mono {t : TT} {mt : Env → M Bool} (h : PT X e t) (hh : ∀ σ H Q, rdT c B W mt σ H Q → t σ H Q) : MT X c B W e mt := ⟨fun pins s σ H Q I hq => h.run pins s σ H Q I (hh σ H Q hq)⟩
theorem mw_mono {t : TT} {mt : Env → M Bool} (h : PW X e t) (hh : ∀ σ H Q, rdT c B W mt σ H Q → t σ H Q) : MW X c B W e mt := ⟨fun w pins s σ H Q I hq => h.run w pins s σ H Q I (hh σ H Q hq)⟩
/-- truth by value -/
def dTru : D → M Bool
  | .non => ret false
  | .bl b => ret b
  | .int i => ret (i != 0)
  | .str x => need (x.length ≤ LIM) (ret ((x.length : Int) != 0))
  | .tup xs => ret (!xs.isEmpty)
  | .lst xs => ret (!xs.isEmpty)
  | _ => stuck
def mTru (me : Env → M D) : Env → M Bool := fun ρ => bnd (me ρ) dTru
theorem OutT.val {b : Bool} {Q : Bool → Hp → Prop} (r : Rel c B O ρ j σ H) (h : OutT c (O ++ B) W σ H Q (ret b j)) : Q b H := h H ExS.refl r.jar
theorem isEmpty_len {α β : Type} {xs : List α} {ys : List β} (h : xs.length = ys.length) : xs.isEmpty = ys.isEmpty := by
  cases xs <;> cases ys <;> first | rfl | simp at h
theorem need_out {p : Prop} [Decidable p] {M' : M D} {r : Res D} (h : Out m c L W σ H Q (need p M' j)) : p ∧ Out m c L W σ H Q (M' j) := by
  unfold need at h
  split at h
  · exact ⟨‹_›, h⟩
  · exact h.elim
theorem need_outT {p : Prop} [Decidable p] {M' : M Bool} {Q : Bool → Hp → Prop} (h : OutT c L W σ H Q (need p M' j)) : p ∧ OutT c L W σ H Q (M' j) := by
  unfold need at h
  split at h
  · exact ⟨‹_›, h⟩
  · exact h.elim
theorem tru_of (hK : X.K = c.K) {d : D} {v : V} {Q : Bool → Hp → Prop} (rel : Rel c B O ρ j σ H) (rp : RepB c (O ++ B) H d v) (out : OutT c (O ++ B) W σ H Q (dTru d j)) : ∃ k, TruV X.K v H k ∧ Q k H := by
  cases d with
  | non => cases (show v = .non from rp); exact ⟨false, rfl, out.val rel⟩
  | bl b => cases (show v = .bl b from rp); exact ⟨b, rfl, out.val rel⟩
  | int i => cases (show v = .int i from rp); exact ⟨_, rfl, out.val rel⟩
  | str x =>
    cases (show v = .str x from rp)
    obtain ⟨h1, h2⟩ := need_outT out
    exact ⟨_, ⟨lim_le h1, rfl⟩, h2.val rel⟩
  | tup ds =>
    obtain ⟨a, vs, rfl, t, r⟩ := rp.tup
    exact ⟨_, .inr (.inl ⟨vs, hK ▸ t, rfl⟩), by rw [← isEmpty_len r.len]; exact out.val rel⟩
  | lst ds =>
    obtain ⟨a, vs, rfl, t, r⟩ := rp.lst
    exact ⟨_, .inl ⟨vs, SqL.of t, rfl⟩, by rw [← isEmpty_len r.len]; exact out.val rel⟩
  | dK ks ds => exact out.elim
  | ins k ns ds => exact out.elim
  | jar => exact out.elim
  | set ns => exact out.elim
  | scr ns => exact out.elim
theorem mt_val (hK : X.K = c.K) (h : ME X .look c B W e me) (he : ∀ whole, isTrue e X.env whole = (do let v ← whole; standAt e.pos; holding [v] (truthy v)) := by intro _; rfl) : MT X c B W e (mTru me) :=
  mt_mono (pt_truth h he) fun σ H Q ⟨O, ρ, j, rel, out⟩ => rd_bndT rel out fun d j1 v H1 rel1 e1 rp out1 => tru_of hK rel1 rp out1
def mAsB (me : Env → M D) : Env → M Bool := fun ρ => bnd (me ρ) fun d => match d with
  | .bl b => ret b
  | _ => stuck
theorem mt_cmp {m1 m2 : Md} {op : CmpOp} {r : R2} {f : D → D → M D} (ho : OpR X (compareOp op) r) (hr : Ok2 .keep c r m1 m2 f) (ha : ME X m1 c B W a ma) (hb : ME X m2 c B W b mb) (hm : behindInMarks op b = false) :
    MT X c B W (.Compare a [op] [b] pos) (mAsB (mBin f ma mb)) := by
  refine mt_mono (pt_cmpR ho ha hb hm) fun σ H Q ⟨O, ρ, j, rel, out⟩ => tOp_of (m := .keep) hr ?_
  exact rd_bndT rel out fun d j1 v H1 rel1 e1 rp out1 => by
    cases d with
    | bl b => exact ⟨b, rp, out1.val rel1⟩
    | _ => exact out1.elim
def mNot (mt : Env → M Bool) : Env → M Bool := fun ρ => bnd (mt ρ) fun b => ret (!b)
theorem mt_not {mt : Env → M Bool} (h : MT X c B W a mt) : MT X c B W (.UnaryOp .Not a pos) (mNot mt) :=
  mt_mono (pt_not h) fun σ H Q ⟨O, ρ, j, rel, out⟩ => rdT_bndT rel out fun b j1 H1 rel1 e1 out1 => out1.val rel1
def mAnd (mt mu : Env → M Bool) : Env → M Bool := fun ρ => bnd (mt ρ) fun b => if b = true then mu ρ else ret false
def mOr (mt mu : Env → M Bool) : Env → M Bool := fun ρ => bnd (mt ρ) fun b => if b = true then ret true else mu ρ
theorem mw_and1 {mt : Env → M Bool} (h : MT X c B W a mt) : MW X c B W (.BoolOp .And [a] pos) mt := pw_and1 h
theorem mw_or1 {mt : Env → M Bool} (h : MT X c B W a mt) : MW X c B W (.BoolOp .Or [a] pos) mt := pw_or1 h
theorem mw_and {mt mu : Env → M Bool} {rest : List Expr} (h : MT X c B W a mt) (h2 : MW X c B W (.BoolOp .And (b :: rest) pos) mu) : MW X c B W (.BoolOp .And (a :: b :: rest) pos) (mAnd mt mu) :=
  mw_mono (pw_and h h2) fun σ H Q ⟨O, ρ, j, rel, out⟩ => rdT_bndT rel out fun k j1 H1 rel1 e1 out1 => by
    cases k with
    | true => exact ⟨O, ρ, j1, rel1, out1⟩
    | false => exact out1.val rel1
theorem mw_or {mt mu : Env → M Bool} {rest : List Expr} (h : MT X c B W a mt) (h2 : MW X c B W (.BoolOp .Or (b :: rest) pos) mu) : MW X c B W (.BoolOp .Or (a :: b :: rest) pos) (mOr mt mu) :=
  mw_mono (pw_or h h2) fun σ H Q ⟨O, ρ, j, rel, out⟩ => rdT_bndT rel out fun k j1 H1 rel1 e1 out1 => by
    cases k with
    | true => exact out1.val rel1
    | false => exact ⟨O, ρ, j1, rel1, out1⟩
theorem mt_w {mt : Env → M Bool} (h : MW X c B W a mt) : MT X c B W a mt := PW.pt h
/-- and, or as values, all but the last True or False -/
def mAndV (ma mb : Env → M D) : Env → M D := fun ρ => bnd (ma ρ) fun d => match d with
  | .bl b => if b = true then mb ρ else ret (.bl false)
  | _ => stuck
def mOrV (ma mb : Env → M D) : Env → M D := fun ρ => bnd (ma ρ) fun d => match d with
  | .bl b => if b = true then ret (.bl true) else mb ρ
  | _ => stuck
theorem me_one {op : BoolOp} (h : ME X m c B W a ma) : ME X m c B W (.BoolOp op [a] pos) ma := pe_one h
theorem me_and {rest : List Expr} (h : ME X .look c B W a ma) (h2 : ME X m c B W (.BoolOp .And (b :: rest) pos) mb) : ME X m c B W (.BoolOp .And (a :: b :: rest) pos) (mAndV ma mb) :=
  me_mono (pe_and h h2) fun σ H Q ⟨O, ρ, j, rel, out⟩ => rd_bnd rel out fun d j1 v H1 rel1 e1 rp out1 => by
    cases d with
    | bl k =>
      refine ⟨k, rp, ?_⟩
      cases k with
      | true => exact ⟨O, ρ, j1, rel1, out1⟩
      | false => exact out1.val rel1 rfl
    | _ => exact out1.elim
theorem me_or {rest : List Expr} (h : ME X .look c B W a ma) (h2 : ME X m c B W (.BoolOp .Or (b :: rest) pos) mb) : ME X m c B W (.BoolOp .Or (a :: b :: rest) pos) (mOrV ma mb) :=
  me_mono (pe_or h h2) fun σ H Q ⟨O, ρ, j, rel, out⟩ => rd_bnd rel out fun d j1 v H1 rel1 e1 rp out1 => by
    cases d with
    | bl k =>
      refine ⟨k, rp, ?_⟩
      cases k with
      | true => exact out1.val rel1 rfl
      | false => exact ⟨O, ρ, j1, rel1, out1⟩
    | _ => exact out1.elim
def mNotV (ma : Env → M D) : Env → M D := fun ρ => bnd (ma ρ) fun d => match d with
  | .bl b => ret (.bl (!b))
  | _ => stuck
theorem me_not (h : ME X .look c B W a ma) : ME X m c B W (.UnaryOp .Not a pos) (mNotV ma) :=
  me_mono (pe_not h) fun σ H Q ⟨O, ρ, j, rel, out⟩ => rd_bnd rel out fun d j1 v H1 rel1 e1 rp out1 => by
    cases d with
    | bl k => exact ⟨k, rp, out1.val rel1 rfl⟩
    | _ => exact out1.elim
def mIfE (mt : Env → M Bool) (ma mb : Env → M D) : Env → M D := fun ρ => bnd (mt ρ) fun b => if b = true then ma ρ else mb ρ
theorem me_if {ct : Expr} {mt : Env → M Bool} (ht : MT X c B W ct mt) (ha : ME X m c B W a ma) (hb : ME X m c B W b mb) : ME X m c B W (.IfExp ct a b pos) (mIfE mt ma mb) :=
  me_mono (pe_ifExp ht ha hb) fun σ H Q ⟨O, ρ, j, rel, out⟩ => rdT_bnd rel out fun k j1 H1 rel1 e1 out1 => by
    cases k with
    | true => exact ⟨O, ρ, j1, rel1, out1⟩
    | false => exact ⟨O, ρ, j1, rel1, out1⟩
/-! ### displays -/
def mTup (ma : Env → M (List D)) : Env → M D := fun ρ => bnd (ma ρ) fun ds => need (ds.length ≤ LIM) (ret (.tup ds))
def mLst (ma : Env → M (List D)) : Env → M D := fun ρ => bnd (ma ρ) fun ds => need (ds.length ≤ LIM) (ret (.lst ds))
theorem me_tup {es : List Expr} {k : Nat} {ml : Env → M (List D)} (h : MA X c B W es ml) : ME X m c B W (.Tuple es k pos) (mTup ml) :=
  me_mono (pe_tupF h) fun σ H Q ⟨O, ρ, j, rel, out⟩ => rdA_bnd (m' := m) rel out fun ds j1 vs H1 rel1 e1 rp out1 => by
    obtain ⟨h1, h2⟩ := need_out (r := .stk) out1
    exact ⟨by rw [← rp.len]; exact lim_le h1, Out.newT rel1 h2 rp⟩
theorem me_lst {es : List Expr} {ml : Env → M (List D)} (h : MA X c B W es ml) : ME X m c B W (.List es pos) (mLst ml) :=
  me_mono (pe_lst h) fun σ H Q ⟨O, ρ, j, rel, out⟩ => rdA_bnd (m' := m) rel out fun ds j1 vs H1 rel1 e1 rp out1 => by
    obtain ⟨h1, h2⟩ := need_out (r := .stk) out1
    exact ⟨by rw [← rp.len]; exact lim_le h1, fun p hp => Out.newL rel1 h2 rp hp⟩
end
end Mir
set_option Elab.async false
set_option linter.all false
set_option maxRecDepth 100000
set_option maxHeartbeats 4000000
/-! Mir2: operators, comparisons, subscripts and slices by mirrors. -/
namespace Mir
open PySem L2
theorem RepM.int {c : RC} {L : List Addr} {H0 H : Hp} {i : Int} {v : V} (h : RepM .look c L H0 H (.int i) v) : v = .int i := h
theorem RepM.str {c : RC} {L : List Addr} {H0 H : Hp} {i : Str} {v : V} (h : RepM .look c L H0 H (.str i) v) : v = .str i := h
theorem RepM.tup {c : RC} {L : List Addr} {H0 H : Hp} {ds : List D} {v : V} (h : RepM .look c L H0 H (.tup ds) v) : ∃ a vs, v = .ref a ∧ TupAt c L H a vs ∧ Reps c L H ds vs := h
theorem RepM.lst {c : RC} {L : List Addr} {H0 H : Hp} {ds : List D} {v : V} (h : RepM .look c L H0 H (.lst ds) v) : ∃ a vs, v = .ref a ∧ H a = some (.lst vs) ∧ Reps c L H ds vs := RepB.lst h
section
variable {X : Cx} {m : Md} {c : RC} {B O L : List Addr} {W : WX} {e a b : Expr} {me ma mb : Env → M D} {pos : Pos} {σ : St} {H H' : Hp} {Q : VK} {ρ : Env} {j : List Int}
/-! ### + - * // % ** and - -/
def dAdd : D → D → M D
  | .int a, .int b => ret (.int (a + b))
  | .str a, .str b => need (a.length + b.length ≤ LIM) (ret (.str (a ++ b)))
  | .tup a, .tup b => need (a.length + b.length ≤ LIM) (ret (.tup (a ++ b)))
  | .lst a, .lst b => need (a.length + b.length ≤ LIM) (ret (.lst (a ++ b)))
  | _, _ => stuck
def rAddA (K : PySem.W.Frag) : R2 := fun x y H Q => rI0 (fun i j => .int (i + j)) x y H Q ∨ ((∃ i j, x = .str i ∧ y = .str j ∧ i.length + j.length ≤ sizeLine ∧ Q (.str (i ++ j)) H) ∨ (rCatF K x y H Q ∨ rCat x y H Q))
theorem op_addA : OpR X (binaryOp .Add) (rAddA X.K) := op_add.or (op_add_str.or (op_catF.or op_cat))
theorem ok_add (hK : X.K = c.K) : Ok2 m c (rAddA X.K) .look .look dAdd := by
  intro B O W ρ j σ H Q x y v w rel ⟨_, rx⟩ ⟨_, ry⟩ out
  cases x <;> cases y <;> first | exact out.elim | skip
  · cases rx.int; cases ry.int
    exact .inl ⟨_, _, rfl, rfl, out.val rel rfl⟩
  · cases rx.str; cases ry.str
    obtain ⟨h1, h2⟩ := need_out (r := .stk) out
    exact .inr (.inl ⟨_, _, rfl, rfl, lim_le h1, h2.val rel rfl⟩)
  · obtain ⟨a, vs, rfl, t, r⟩ := rx.tup
    obtain ⟨b, ws, rfl, u, q⟩ := ry.tup
    obtain ⟨h1, h2⟩ := need_out (r := .stk) out
    refine .inr (.inr (.inl ⟨a, b, vs, ws, rfl, rfl, hK ▸ t.sq, hK ▸ u.sq, by rw [← r.len, ← q.len]; exact lim_le h1, fun e => ?_, fun _ e => ?_, fun _ _ => Out.newT rel h2 (r.app q)⟩))
    · subst e
      have : _ = [] := List.length_eq_zero_iff.mp r.len
      subst this
      exact h2.val rel ⟨b, ws, rfl, u, q⟩
    · subst e
      have : _ = [] := List.length_eq_zero_iff.mp q.len
      subst this
      exact h2.val rel ⟨a, vs, rfl, t, by rw [List.append_nil]; exact r⟩
  · obtain ⟨a, vs, rfl, t, r⟩ := rx.lst
    obtain ⟨b, ws, rfl, u, q⟩ := ry.lst
    obtain ⟨h1, h2⟩ := need_out (r := .stk) out
    exact .inr (.inr (.inr ⟨a, b, vs, ws, rfl, rfl, t, u, by rw [← r.len, ← q.len]; exact lim_le h1, fun p hp => Out.newL rel h2 (r.app q) hp⟩))
theorem me_add (hK : X.K = c.K) (ha : ME X .look c B W a ma) (hb : ME X .look c B W b mb) : ME X m c B W (.BinOp a .Add b pos) (mBin dAdd ma mb) := me_op op_addA (ok_add hK) ha hb
def dSub : D → D → M D
  | .int a, .int b => ret (.int (a - b))
  | _, _ => stuck
theorem me_sub (ha : ME X .look c B W a ma) (hb : ME X .look c B W b mb) : ME X m c B W (.BinOp a .Sub b pos) (mBin dSub ma mb) := me_op op_sub (by
  intro B O W ρ j σ H Q x y v w rel ⟨_, rx⟩ ⟨_, ry⟩ out
  cases x <;> cases y <;> first | exact out.elim | skip
  · cases rx.int; cases ry.int
    exact ⟨_, _, rfl, rfl, out.val rel rfl⟩) ha hb
/-- within 64 bits -/
abbrev small (i : Int) : Prop := -(2 ^ 64) < i ∧ i < 2 ^ 64
theorem Reps.rep {ds : List D} {vs : List V} (r : Reps c L H ds vs) : ∀ n : Nat, Reps c L H (List.replicate n ds).flatten (List.replicate n vs).flatten
  | 0 => rfl
  | n + 1 => by
    rw [List.replicate_succ, List.replicate_succ, List.flatten_cons, List.flatten_cons]
    exact r.app (Reps.rep r n)
def neNil (a : List D) : Bool := !a.isEmpty
def dMul : D → D → M D
  | .int a, .int b => need (small a ∨ small b) (ret (.int (a * b)))
  | .lst a, .int k => need (-(2 ^ 63) ≤ k ∧ k < 2 ^ 63 ∧ a.length * k.toNat ≤ LIM) (ret (.lst (List.replicate k.toNat a).flatten))
  | .tup a, .int k => need (neNil a = true ∧ 1 ≤ k ∧ k ≤ 1000 ∧ a.length ≤ 1000) (ret (.tup (List.replicate k.toNat a).flatten))
  | _, _ => stuck
def rMulA (K : PySem.W.Frag) : R2 := fun x y H Q => rI CMul (fun i j => .int (i * j)) x y H Q ∨ (rRep x y H Q ∨ rRepF K x y H Q)
theorem op_mulA : OpR X (binaryOp .Mult) (rMulA X.K) := op_mul.or (op_rep.or op_repF)
theorem nil_of_reps {ds : List D} {vs : List V} (r : Reps c L H ds vs) (h : ds ≠ []) : vs ≠ [] := fun e => by
  subst e
  exact h (List.length_eq_zero_iff.mp r.len)
theorem neNil_iff {a : List D} (h : neNil a = true) : a ≠ [] := fun e => by subst e; cases h
theorem ok_mul (hK : X.K = c.K) : Ok2 m c (rMulA X.K) .look .look dMul := by
  intro B O W ρ j σ H Q x y v w rel ⟨_, rx⟩ ⟨_, ry⟩ out
  cases x <;> cases y <;> first | exact out.elim | skip
  · cases rx.int; cases ry.int
    obtain ⟨h1, h2⟩ := need_out (r := .stk) out
    exact .inl ⟨_, _, rfl, rfl, h1, h2.val rel rfl⟩
  · obtain ⟨a, vs, rfl, t, r⟩ := rx.tup
    cases ry.int
    obtain ⟨⟨h0, h1, h2, h3⟩, h4⟩ := need_out (r := .stk) out
    refine .inr (.inr ⟨a, _, vs, rfl, rfl, hK ▸ t.sq, nil_of_reps r (neNil_iff h0), by rw [← r.len]; exact h3, ?_⟩)
    rename_i k
    by_cases e : k = 1
    · subst e
      refine .inl ⟨rfl, ?_⟩
      rename_i ds
      have e : (List.replicate (1 : Int).toNat ds).flatten = ds := by simp
      rw [e] at h4
      exact h4.val rel ⟨a, vs, rfl, t, r⟩
    · exact .inr ⟨by omega, h2, Out.newT rel h4 (r.rep _)⟩
  · obtain ⟨a, vs, rfl, t, r⟩ := rx.lst
    cases ry.int
    obtain ⟨⟨h0, h1, h2⟩, h4⟩ := need_out (r := .stk) out
    exact .inr (.inl ⟨a, _, vs, rfl, rfl, t, h0, h1, by rw [← r.len]; exact lim_le h2, fun p hp => Out.newL rel h4 (r.rep _) hp⟩)
theorem me_mul (hK : X.K = c.K) (ha : ME X .look c B W a ma) (hb : ME X .look c B W b mb) : ME X m c B W (.BinOp a .Mult b pos) (mBin dMul ma mb) := me_op op_mulA (ok_mul hK) ha hb
/-- a rule over two ints -/
theorem ok_rI {C : Int → Int → Prop} [∀ i k, Decidable (C i k)] {g : Int → Int → Int} : Ok2 m c (rI C fun i k => .int (g i k)) .look .look fun x y => match x, y with
    | .int a, .int b => need (C a b) (ret (.int (g a b)))
    | _, _ => stuck := by
  intro B O W ρ j σ H Q x y v w rel ⟨_, rx⟩ ⟨_, ry⟩ out
  cases x <;> cases y <;> first | exact out.elim | skip
  · cases rx.int; cases ry.int
    obtain ⟨h1, h2⟩ := need_out (r := .stk) out
    exact ⟨_, _, rfl, rfl, h1, h2.val rel rfl⟩
theorem ok_rB {g : Int → Int → Bool} : Ok2 m c (rI0 fun i k => .bl (g i k)) .look .look fun x y => match x, y with
    | .int a, .int b => ret (.bl (g a b))
    | _, _ => stuck := by
  intro B O W ρ j σ H Q x y v w rel ⟨_, rx⟩ ⟨_, ry⟩ out
  cases x <;> cases y <;> first | exact out.elim | skip
  · cases rx.int; cases ry.int
    exact ⟨_, _, rfl, rfl, out.val rel rfl⟩
def dFdiv : D → D → M D := fun x y => match x, y with
  | .int a, .int b => need (0 < b ∧ b < 1073741824) (ret (.int (a / b)))
  | _, _ => stuck
theorem me_fdiv (ha : ME X .look c B W a ma) (hb : ME X .look c B W b mb) : ME X m c B W (.BinOp a .FloorDiv b pos) (mBin dFdiv ma mb) := me_op op_fdiv (ok_rI (C := fun _ b => 0 < b ∧ b < 1073741824)) ha hb
def dMod : D → D → M D := fun x y => match x, y with
  | .int a, .int b => need (0 < b) (ret (.int (a % b)))
  | _, _ => stuck
theorem me_mod (ha : ME X .look c B W a ma) (hb : ME X .look c B W b mb) : ME X m c B W (.BinOp a .Mod b pos) (mBin dMod ma mb) := me_op op_mod (ok_rI (C := fun _ b => 0 < b)) ha hb
def dPow : D → D → M D := fun x y => match x, y with
  | .int a, .int b => need (0 ≤ b ∧ b ≤ 1000000 ∧ a.natAbs < 2 ^ 64) (ret (.int (a ^ b.toNat)))
  | _, _ => stuck
theorem me_pow (ha : ME X .look c B W a ma) (hb : ME X .look c B W b mb) : ME X m c B W (.BinOp a .Pow b pos) (mBin dPow ma mb) := me_op op_pow (ok_rI (C := fun a b => 0 ≤ b ∧ b ≤ 1000000 ∧ a.natAbs < 2 ^ 64)) ha hb
def dNeg : D → M D
  | .int a => ret (.int (-a))
  | _ => stuck
def mUn (f : D → M D) (ma : Env → M D) : Env → M D := fun ρ => bnd (ma ρ) f
theorem me_neg (ha : ME X .look c B W a ma) : ME X m c B W (.UnaryOp .USub a pos) (mUn dNeg ma) :=
  me_mono (pe_un un_neg ha) fun σ H Q ⟨O, ρ, j, rel, out⟩ => rd_bnd rel out fun d j1 v H1 rel1 e1 rp out1 => by
    cases d <;> first | exact out1.elim | skip
    cases (RepM.int rp)
    exact ⟨_, rfl, out1.val rel1 rfl⟩
/-! ### comparisons of ints -/
def dLt : D → D → M D := fun x y => match x, y with
  | .int a, .int b => ret (.bl (decide (a < b)))
  | _, _ => stuck
def dLe : D → D → M D := fun x y => match x, y with
  | .int a, .int b => ret (.bl (decide (a ≤ b)))
  | _, _ => stuck
def dGt : D → D → M D := fun x y => match x, y with
  | .int a, .int b => ret (.bl (decide (b < a)))
  | _, _ => stuck
def dGe : D → D → M D := fun x y => match x, y with
  | .int a, .int b => ret (.bl (decide (b ≤ a)))
  | _, _ => stuck
theorem ok_lt : Ok2 m c (rI0 fun i k => .bl (decide (i < k))) .look .look dLt := ok_rB (g := fun a b => decide (a < b))
theorem ok_le : Ok2 m c (rI0 fun i k => .bl (decide (i ≤ k))) .look .look dLe := ok_rB (g := fun a b => decide (a ≤ b))
theorem ok_gt : Ok2 m c (rI0 fun i k => .bl (decide (k < i))) .look .look dGt := ok_rB (g := fun a b => decide (b < a))
theorem ok_ge : Ok2 m c (rI0 fun i k => .bl (decide (k ≤ i))) .look .look dGe := ok_rB (g := fun a b => decide (b ≤ a))
/-! ### == and != of data -/
mutual
def toPD : D → Option PyData
  | .non => some .none
  | .bl b => some (.bool b)
  | .int i => some (.int i)
  | .str s => some (.str s)
  | .tup ds => (toPDs ds).map .tuple
  | .lst ds => (toPDs ds).map .list
  | _ => none
def toPDs : List D → Option (List PyData)
  | [] => some []
  | d :: ds => (toPD d).bind fun p => (toPDs ds).map fun ps => p :: ps
end
mutual
theorem Rep.dp {K : PySem.W.Frag} (hK : K = c.K) : ∀ (d : D) (v : V) (p : PyData), Rep c L H d v → toPD d = some p → Dp K H v p
  | .non, _, _, h, e => by cases e; cases (show _ = V.non from h); exact .non
  | .bl b, _, _, h, e => by cases e; cases (show _ = V.bl b from h); exact .bl b
  | .int i, _, _, h, e => by cases e; cases (show _ = V.int i from h); exact .int i
  | .str x, _, _, h, e => by cases e; cases (show _ = V.str x from h); exact .str x
  | .tup ds, _, _, h, e => by
    obtain ⟨a, vs, rfl, t, r⟩ := h
    have e : (toPDs ds).map PyData.tuple = some _ := e
    cases q : toPDs ds with
    | none => rw [q] at e; cases e
    | some ps =>
      rw [q] at e
      cases e
      exact .tup (hK ▸ t.sq) (Reps.dp hK ds vs ps r q)
  | .lst ds, _, _, h, e => by
    obtain ⟨a, vs, rfl, _, t, r⟩ := h
    have e : (toPDs ds).map PyData.list = some _ := e
    cases q : toPDs ds with
    | none => rw [q] at e; cases e
    | some ps =>
      rw [q] at e
      cases e
      exact .lst (SqL.of t) (Reps.dp hK ds vs ps r q)
  | .dK _ _, _, _, _, e => by cases e
  | .ins _ _ _, _, _, _, e => by cases e
  | .jar, _, _, _, e => by cases e
theorem Reps.dp {K : PySem.W.Frag} (hK : K = c.K) : ∀ (ds : List D) (vs : List V) (ps : List PyData), Reps c L H ds vs → toPDs ds = some ps → DpAll K H vs ps
  | [], _, _, h, e => by cases e; cases (show _ = [] from h); exact .nil
  | d :: ds, _, _, h, e => by
    obtain ⟨v, r, rfl, h1, h2⟩ := h
    have e : ((toPD d).bind fun p => (toPDs ds).map fun ps => p :: ps) = some _ := e
    cases q : toPD d with
    | none => rw [q] at e; cases e
    | some p =>
      cases q2 : toPDs ds with
      | none => rw [q, q2] at e; cases e
      | some ps =>
        rw [q, q2] at e
        cases e
        exact .cons (Rep.dp hK d v p h1 q) (Reps.dp hK ds r ps h2 q2)
end
theorem RepB.dp {K : PySem.W.Frag} (hK : K = c.K) {d : D} {v : V} {p : PyData} (h : RepB c L H d v) (e : toPD d = some p) : Dp K H v p := by
  cases d with
  | lst ds =>
    obtain ⟨a, vs, rfl, t, r⟩ := h.lst
    have e : (toPDs ds).map PyData.list = some _ := e
    cases q : toPDs ds with
    | none => rw [q] at e; cases e
    | some ps =>
      rw [q] at e
      cases e
      exact .lst (SqL.of t) (Reps.dp hK ds vs ps r q)
  | dK _ _ => cases e
  | ins _ _ _ => cases e
  | _ => exact Rep.dp hK _ _ _ h e
/-- flat data as a value -/
def flatD : D → Option V
  | .non => some .non
  | .bl b => some (.bl b)
  | .int i => some (.int i)
  | .str s => some (.str s)
  | _ => none
theorem RepB.flat {d : D} {v w : V} (h : RepB c L H d v) (e : flatD d = some w) : v = w := by
  cases d <;> cases e <;> exact h
def deepEq (x y : D) (k : Bool → M D) : M D := match toPD x, toPD y with
  | some p, some q => need (SeqAt.shaped p = true ∧ SeqAt.shaped q = true) (k (PyData.eqv p q))
  | _, _ => stuck
def eqWith (k : Bool → M D) (x y : D) : M D := match flatD x, flatD y with
  | some v, some w => if scal v w = true then k (decide (v = w)) else deepEq x y k
  | _, _ => deepEq x y k
def dEq : D → D → M D := eqWith fun b => ret (.bl b)
def dNe : D → D → M D := eqWith fun b => ret (.bl (!b))
theorem eq_cases {x y : D} {k : Bool → M D} {P : Prop} (h1 : ∀ v w, flatD x = some v → flatD y = some w → scal v w = true → Out m c L W σ H Q (k (decide (v = w)) j) → P)
    (h2 : ∀ p q, toPD x = some p → toPD y = some q → SeqAt.shaped p = true → SeqAt.shaped q = true → Out m c L W σ H Q (k (PyData.eqv p q) j) → P) (out : Out m c L W σ H Q (eqWith k x y j)) : P := by
  have deep : Out m c L W σ H Q (deepEq x y k j) → P := fun out => by
    unfold deepEq at out
    cases e1 : toPD x with
    | none => rw [e1] at out; exact out.elim
    | some p =>
      cases e2 : toPD y with
      | none => rw [e1, e2] at out; exact out.elim
      | some q =>
        rw [e1, e2] at out
        obtain ⟨⟨s1, s2⟩, o⟩ := need_out (r := .stk) out
        exact h2 p q e1 e2 s1 s2 o
  unfold eqWith at out
  cases e1 : flatD x with
  | none => rw [e1] at out; exact deep out
  | some v =>
    cases e2 : flatD y with
    | none => rw [e1, e2] at out; exact deep out
    | some w =>
      rw [e1, e2] at out
      dsimp only at out
      by_cases s : scal v w = true
      · rw [if_pos s] at out
        exact h1 v w e1 e2 s out
      · rw [if_neg s] at out
        exact deep out
def rEqA (K : PySem.W.Frag) : R2 := fun x y H Q => rEq x y H Q ∨ rEqD K x y H Q
def rNeA (K : PySem.W.Frag) : R2 := fun x y H Q => rNe x y H Q ∨ rNeD K x y H Q
theorem op_eqA (hu : X.A.units + 64 < cLine) : OpR X (compareOp .Eq) (rEqA X.K) := op_eq.or (op_eqD hu)
theorem op_neA (hu : X.A.units + 64 < cLine) : OpR X (compareOp .NotEq) (rNeA X.K) := op_ne.or (op_neD hu)
theorem ok_eq (hK : X.K = c.K) : Ok2 m c (rEqA X.K) .look .look dEq := by
  intro B O W ρ j σ H Q x y v w rel ⟨_, rx⟩ ⟨_, ry⟩ out
  refine eq_cases (m := m) (fun v' w' e1 e2 s o => ?_) (fun p q e1 e2 s1 s2 o => ?_) out
  · cases RepB.flat rx e1; cases RepB.flat ry e2
    exact .inl ⟨s, o.val rel rfl⟩
  · exact .inr ⟨p, q, RepB.dp hK rx e1, RepB.dp hK ry e2, s1, s2, o.val rel rfl⟩
theorem ok_ne (hK : X.K = c.K) : Ok2 m c (rNeA X.K) .look .look dNe := by
  intro B O W ρ j σ H Q x y v w rel ⟨_, rx⟩ ⟨_, ry⟩ out
  refine eq_cases (m := m) (fun v' w' e1 e2 s o => ?_) (fun p q e1 e2 s1 s2 o => ?_) out
  · cases RepB.flat rx e1; cases RepB.flat ry e2
    exact .inl ⟨s, o.val rel rfl⟩
  · exact .inr ⟨p, q, RepB.dp hK rx e1, RepB.dp hK ry e2, s1, s2, o.val rel rfl⟩
/-! ### is None -/
def isNon : D → Bool
  | .non => true
  | _ => false
theorem RepB.isNon {d : D} {v : V} (h : RepB c L H d v) : decide (v = .non) = Mir.isNon d := by
  cases d with
  | non => cases (show v = .non from h); rfl
  | bl b => cases (show v = .bl b from h); rfl
  | int b => cases (show v = .int b from h); rfl
  | str b => cases (show v = .str b from h); rfl
  | tup ds => obtain ⟨a, _, rfl, _⟩ := h; rfl
  | lst ds => obtain ⟨a, _, rfl, _⟩ := h; rfl
  | dK ks ds => obtain ⟨a, _, rfl, _⟩ := h; rfl
  | ins k ns ds => obtain ⟨a, _, _, rfl, _⟩ := h; rfl
  | jar => cases (show v = .ref c.J ∧ c.has = true from h).1; rfl
  | set ns => obtain ⟨a, _, rfl, _⟩ := h; rfl
  | scr ns => obtain ⟨a, rfl, _⟩ := h; rfl
def dIsN : D → D → M D := fun x _ => ret (.bl (isNon x))
def dNotN : D → D → M D := fun x _ => ret (.bl (!isNon x))
def mIsN (ma : Env → M D) : Env → M D := fun ρ => bnd (ma ρ) fun x => ret (.bl (isNon x))
def mNotN (ma : Env → M D) : Env → M D := fun ρ => bnd (ma ρ) fun x => ret (.bl (!isNon x))
theorem me_isN {k p} (ha : ME X .look c B W a ma) : ME X m c B W (.Compare a [.Is] [.Constant .none k p] pos) (mIsN ma) :=
  me_mono (pe_cmpR (r := fun x y H Q => y = .non ∧ Q (.bl (decide (x = .non))) H) op_isN ha (pe_non (j := k)) rfl) fun σ H Q ⟨O, ρ, j, rel, out⟩ => rd_bnd rel out fun d j1 v H1 rel1 e1 rp out1 => ⟨rfl, by rw [RepB.isNon rp]; exact out1.val rel1 rfl⟩
theorem me_notN {k p} (ha : ME X .look c B W a ma) : ME X m c B W (.Compare a [.IsNot] [.Constant .none k p] pos) (mNotN ma) :=
  me_mono (pe_cmpR (r := fun x y H Q => y = .non ∧ Q (.bl (!decide (x = .non))) H) op_notN ha (pe_non (j := k)) rfl) fun σ H Q ⟨O, ρ, j, rel, out⟩ => rd_bnd rel out fun d j1 v H1 rel1 e1 rp out1 => ⟨rfl, by rw [RepB.isNon rp]; exact out1.val rel1 rfl⟩
def mTIsN (ma : Env → M D) : Env → M Bool := fun ρ => bnd (ma ρ) fun x => ret (isNon x)
def mTNotN (ma : Env → M D) : Env → M Bool := fun ρ => bnd (ma ρ) fun x => ret (!isNon x)
theorem mt_isN {k p} (ha : ME X .look c B W a ma) : MT X c B W (.Compare a [.Is] [.Constant .none k p] pos) (mTIsN ma) :=
  mt_mono (pt_cmpR (r := fun x y H Q => y = .non ∧ Q (.bl (decide (x = .non))) H) op_isN ha (pe_non (j := k)) rfl) fun σ H Q ⟨O, ρ, j, rel, out⟩ => rd_bndT rel out fun d j1 v H1 rel1 e1 rp out1 => ⟨rfl, _, rfl, by rw [RepB.isNon rp]; exact out1.val rel1⟩
theorem mt_notN {k p} (ha : ME X .look c B W a ma) : MT X c B W (.Compare a [.IsNot] [.Constant .none k p] pos) (mTNotN ma) :=
  mt_mono (pt_cmpR (r := fun x y H Q => y = .non ∧ Q (.bl (!decide (x = .non))) H) op_notN ha (pe_non (j := k)) rfl) fun σ H Q ⟨O, ρ, j, rel, out⟩ => rd_bndT rel out fun d j1 v H1 rel1 e1 rp out1 => ⟨rfl, _, rfl, by rw [RepB.isNon rp]; exact out1.val rel1⟩
/-! ### chains a < b < c -/
def mChain (f g : D → D → M D) (ma mb mc : Env → M D) : Env → M D := fun ρ => bnd (ma ρ) fun x => bnd (mb ρ) fun y => bnd (f x y) fun z => match z with
  | .bl true => bnd (mc ρ) fun u => g y u
  | .bl false => ret (.bl false)
  | _ => stuck
theorem tChain_of {r r' : R2} {f g : D → D → M D} {mc : Env → M D} (hr : Ok2 .keep c r .look .look f) (hr' : Ok2 m c r' .look .look g) (h : rd m c B W (mChain f g ma mb mc) σ H Q) :
    tChain r r' (rd .look c B W ma) (rd .look c B W mb) (rd .look c B W mc) σ H Q := by
  obtain ⟨O, ρ, j, rel, out⟩ := h
  refine rd_bnd rel out fun x j1 v H1 rel1 e1 rp1 out1 => rd_bnd rel1 out1 fun y j2 w H2 rel2 e2 rp2 out2 => ?_
  refine hr B O W ρ j2 σ H2 _ x y v w rel2 ⟨_, rp1.ex rel.jL e2⟩ ⟨_, rp2⟩ ?_
  unfold bnd at out2
  cases q : f x y j2 with
  | stk => rw [q] at out2; exact out2.elim
  | exc k g' j' => rw [q] at out2; exact out2
  | ok z j3 =>
    rw [q] at out2
    intro u H3 e3 hj3 rp3
    have rel3 := rel2.ex e3 hj3
    have out3 := Out.ex e3 rel2.jar hj3 out2
    cases z <;> first | exact out3.elim | skip
    rename_i k
    refine ⟨k, rp3, ?_⟩
    cases k with
    | true => exact rd_bnd rel3 out3 fun z j4 u' H4 rel4 e4 rp4 out4 => hr' B O W ρ j4 σ H4 Q y z w u' rel4 ⟨_, (rp2.ex rel.jL e3).ex rel.jL e4⟩ ⟨_, rp4⟩ out4
    | false => exact out3.val rel3 rfl
theorem me_chain {op op' : CmpOp} {r r' : R2} {f g : D → D → M D} {d : Expr} {mc : Env → M D} (ho : OpR X (compareOp op) r) (ho' : OpR X (compareOp op') r') (hr : Ok2 .keep c r .look .look f) (hr' : Ok2 m c r' .look .look g)
    (ha : ME X .look c B W a ma) (hb : ME X .look c B W b mb) (hd : ME X .look c B W d mc) (hm : lastMarks [op, op'] [b, d] = false := by rfl) : ME X m c B W (.Compare a [op, op'] [b, d] pos) (mChain f g ma mb mc) :=
  me_mono (pe_chain ho ho' ha hb hd hm) fun _ _ _ h => tChain_of hr hr' h
theorem mt_chain {op op' : CmpOp} {r r' : R2} {f g : D → D → M D} {d : Expr} {mc : Env → M D} (ho : OpR X (compareOp op) r) (ho' : OpR X (compareOp op') r') (hr : Ok2 .keep c r .look .look f) (hr' : Ok2 .keep c r' .look .look g)
    (ha : ME X .look c B W a ma) (hb : ME X .look c B W b mb) (hd : ME X .look c B W d mc) (hm : lastMarks [op, op'] [b, d] = false := by rfl) : MT X c B W (.Compare a [op, op'] [b, d] pos) (mAsB (mChain f g ma mb mc)) := by
  refine mt_mono (pt_chain ho ho' ha hb hd hm) fun σ H Q ⟨O, ρ, j, rel, out⟩ => tChain_of hr hr' ?_
  exact rd_bndT rel out fun d j1 v H1 rel1 e1 rp out1 => by
    cases d with
    | bl b => exact ⟨b, rp, out1.val rel1⟩
    | _ => exact out1.elim
end
end Mir
set_option Elab.async false
set_option linter.all false
set_option maxRecDepth 100000
set_option maxHeartbeats 4000000
/-! Mir3: statements, stores, loops, defs and their calls by mirrors. -/
namespace Mir
open PySem L2
/-- how a statement ends -/
inductive Fl where
  | nx (ρ : Env) | rt (d : D) | bk (ρ : Env) | ct (ρ : Env) | rtF (d : D)
/-- behind a statement: what is not the def's own stands; what is its own was its own, or is new -/
structure Grow (c : RC) (O : List Addr) (H : Hp) (O' : List Addr) (H' : Hp) : Prop where
  keep : ∀ a o, a ∉ O → a ∉ c.Js → H a = some o → H' a = some o
  own : ∀ a ∈ O', a ∈ O ∨ H a = none
  dom : ∀ a, a ∉ c.Js → H a ≠ none → H' a ≠ none
theorem Grow.refl {c : RC} {O : List Addr} {H : Hp} : Grow c O H O H := ⟨fun _ _ _ _ h => h, fun _ h => .inl h, fun _ _ h => h⟩
theorem Grow.trans {c : RC} {O O1 O2 : List Addr} {H H1 H2 : Hp} (a : Grow c O H O1 H1) (b : Grow c O1 H1 O2 H2) (hJ : ∀ x ∈ c.Js, x ∉ O2) : Grow c O H O2 H2 where
  keep := fun x o n z h => b.keep x o (fun q => (a.own x q).elim n fun e => by rw [h] at e; cases e) z (a.keep x o n z h)
  own := fun x q => (b.own x q).elim (a.own x) fun e => by
    by_cases n : x ∈ O
    · exact .inl n
    · cases h : H x with
      | none => exact .inr rfl
      | some o =>
        have z : x ∉ c.Js := fun e => hJ x e q
        rw [a.keep x o n z h] at e; cases e
  dom := fun x z h => b.dom x z (a.dom x z h)
theorem Grow.ex {c : RC} {O : List Addr} {H H' : Hp} (e : Ex c H H') : Grow c O H O H' := ⟨fun a o _ n h => e.at n h, fun _ h => .inl h, fun a z h => by
  cases q : H a with
  | none => exact absurd q h
  | some o => rw [e.at z q]; exact fun w => nomatch w⟩
theorem Grow.back {c : RC} {B O O1 : List Addr} {H H1 : Hp} (g : Grow c O H O1 H1) (hJ : InJ c B) : ∀ a, a ∉ B → H1 a = none → H a = none := fun a n z => by
  cases q : H a with
  | none => rfl
  | some o => exact absurd z (g.dom a (hJ.ne n) (by rw [q]; exact fun w => nomatch w))
section
variable {X : Cx} {m : Md} {c : RC} {B O O' L : List Addr} {W : WX} {e a b : Expr} {me ma mb : Env → M D} {pos : Pos} {σ : St} {H H' : Hp} {Q : VK} {ρ : Env} {j : List Int} {D' : Ends} {st : Stmt} {sts : List Stmt}
def OutS (c : RC) (B : List Addr) (W : WX) (D : Ends) (O : List Addr) (H : Hp) : Res Fl → Prop
  | .ok (.nx ρ) j => ∀ O' σ' H', Grow c O H O' H' → Rel c B O' ρ j σ' H' → D.nx σ' H'
  | .ok (.bk ρ) j => ∀ O' σ' H', Grow c O H O' H' → Rel c B O' ρ j σ' H' → D.bk σ' H'
  | .ok (.ct ρ) j => ∀ O' σ' H', Grow c O H O' H' → Rel c B O' ρ j σ' H' → D.ct σ' H'
  | .ok (.rt d) j => ∀ O' ρ' σ' H' v, Grow c O H O' H' → Rel c B O' ρ' j σ' H' → Rep c (O' ++ B) H' d v → D.rt v H'
  | .ok (.rtF d) j => ∀ O' ρ' σ' H' v, Grow c O H O' H' → Rel c B O' ρ' j σ' H' → RepF c (O' ++ B) H H' d v → D.rt v H'
  | .exc k g j => ∀ O' ρ' σ' H' dx v, Grow c O H O' H' → Rel c B O' ρ' j σ' H' → Rep c (O' ++ B) H' g v → H' dx = some (.xd [(c.att k, v)]) → W (.ref (c.cls k)) (some dx) σ' H'
  | .stk => False
def rdS (c : RC) (B : List Addr) (W : WX) (ms : Env → M Fl) : TS := fun D σ H => ∃ O ρ j, Rel c B O ρ j σ H ∧ OutS c B W D O H (ms ρ j)
abbrev MS (X : Cx) (c : RC) (B : List Addr) (W : WX) (st : Stmt) (ms : Env → M Fl) : Prop := PS X st (rdS c B W ms)
abbrev MSs (X : Cx) (c : RC) (B : List Addr) (W : WX) (sts : List Stmt) (ms : Env → M Fl) : Prop := PSs X sts (rdS c B W ms)
theorem OutS.grow {r : Res Fl} {O1 : List Addr} {H1 : Hp} (g : Grow c O H O1 H1) (h : OutS c B W D' O H r) : OutS c B W D' O1 H1 r := by
  cases r with
  | stk => exact h
  | exc k x j => exact fun O' ρ' σ' H' dx v g' rel rp hd => h O' ρ' σ' H' dx v (g.trans g' rel.jO) rel rp hd
  | ok f j =>
    cases f with
    | nx ρ => exact fun O' σ' H' g' rel => h O' σ' H' (g.trans g' rel.jO) rel
    | bk ρ => exact fun O' σ' H' g' rel => h O' σ' H' (g.trans g' rel.jO) rel
    | ct ρ => exact fun O' σ' H' g' rel => h O' σ' H' (g.trans g' rel.jO) rel
    | rt d => exact fun O' ρ' σ' H' v g' rel rp => h O' ρ' σ' H' v (g.trans g' rel.jO) rel rp
    | rtF d => exact fun O' ρ' σ' H' v g' rel rp => h O' ρ' σ' H' v (g.trans g' rel.jO) rel (rp.back (g.back rel.jL))
theorem ms_mono {t : TS} {ms : Env → M Fl} (h : PS X st t) (hh : ∀ D σ H, rdS c B W ms D σ H → t D σ H) : MS X c B W st ms := ⟨fun pins s σ H D I hq => h.run pins s σ H D I (hh D σ H hq)⟩
theorem mss_mono {t : TS} {ms : Env → M Fl} (h : PSs X sts t) (hh : ∀ D σ H, rdS c B W ms D σ H → t D σ H) : MSs X c B W sts ms := ⟨fun pins s σ H D I hq => h.run pins s σ H D I (hh D σ H hq)⟩
/-- an expression within a statement -/
theorem rd_bndS {m' : Md} {P : VK} {k : D → M Fl} (rel : Rel c B O ρ j σ H) (out : OutS c B W D' O H (bnd (ma ρ) k j))
    (hP : ∀ d j1 v H1, Rel c B O ρ j1 σ H1 → Ex c H H1 → RepM m' c (O ++ B) H H1 d v → OutS c B W D' O H1 (k d j1) → P v H1) : rd m' c B W ma σ H P := by
  refine ⟨O, ρ, j, rel, ?_⟩
  unfold bnd at out
  cases q : ma ρ j with
  | ok d j1 =>
    rw [q] at out
    exact fun v H1 e hj rp => hP d j1 v H1 (rel.ex e hj) e rp (out.grow (Grow.ex e))
  | exc k g j' =>
    rw [q] at out
    exact fun dx H' v e hj rp hd => out O ρ σ H' dx v (Grow.ex e) (rel.ex e hj) rp hd
  | stk => rw [q] at out; exact out.elim
theorem rdT_bndS {P : Bool → Hp → Prop} {mt : Env → M Bool} {k : Bool → M Fl} (rel : Rel c B O ρ j σ H) (out : OutS c B W D' O H (bnd (mt ρ) k j))
    (hP : ∀ b j1 H1, Rel c B O ρ j1 σ H1 → Ex c H H1 → OutS c B W D' O H1 (k b j1) → P b H1) : rdT c B W mt σ H P := by
  refine ⟨O, ρ, j, rel, ?_⟩
  unfold bnd at out
  cases q : mt ρ j with
  | ok d j1 =>
    rw [q] at out
    exact fun H1 e hj => hP d j1 H1 (rel.ex e hj) e (out.grow (Grow.ex e))
  | exc k g j' =>
    rw [q] at out
    exact fun dx H' v e hj rp hd => out O ρ σ H' dx v (Grow.ex e) (rel.ex e hj) rp hd
  | stk => rw [q] at out; exact out.elim
theorem OutS.nx {D' : Ends} (rel : Rel c B O ρ j σ H) (out : OutS c B W D' O H (ret (Fl.nx ρ) j)) : D'.nx σ H := out O σ H Grow.refl rel
/-! ### blocks, small statements -/
def mNext : Env → M Fl := fun ρ => ret (.nx ρ)
def mSeq (a b : Env → M Fl) : Env → M Fl := fun ρ => bnd (a ρ) fun f => match f with
  | .nx ρ' => b ρ'
  | f => ret f
theorem mss_nil : MSs X c B W [] mNext := mss_mono pss_nil fun D σ H ⟨O, ρ, j, rel, out⟩ => out.nx rel
theorem mss_cons {s1 s2 : Env → M Fl} (h1 : MS X c B W st s1) (h2 : MSs X c B W sts s2) : MSs X c B W (st :: sts) (mSeq s1 s2) :=
  mss_mono (pss_cons h1 h2) fun D σ H ⟨O, ρ, j, rel, out⟩ => by
    refine ⟨O, ρ, j, rel, ?_⟩
    unfold mSeq bnd at out
    cases q : s1 ρ j with
    | stk => rw [q] at out; exact out
    | exc k g j' => rw [q] at out; exact out
    | ok f j1 =>
      rw [q] at out
      cases f with
      | nx ρ1 => exact fun O1 σ1 H1 g rel1 => ⟨O1, ρ1, j1, rel1, OutS.grow g out⟩
      | bk ρ1 => exact out
      | ct ρ1 => exact out
      | rt d => exact out
      | rtF d => exact out
theorem mss_one {s1 : Env → M Fl} (h1 : MS X c B W st s1) : MSs X c B W [st] s1 := mss_mono (pss_one h1) fun _ _ _ h => h
def mRet (me : Env → M D) : Env → M Fl := fun ρ => bnd (me ρ) fun d => ret (.rt d)
theorem ms_ret (h : ME X .keep c B W e me) : MS X c B W (.Return (some e) pos) (mRet me) :=
  ms_mono (ps_ret h) fun D σ H ⟨O, ρ, j, rel, out⟩ => rd_bndS rel out fun d j1 v H1 rel1 e1 rp out1 => out1 O ρ σ H1 v Grow.refl rel1 rp
def mRetF (me : Env → M D) : Env → M Fl := fun ρ => bnd (me ρ) fun d => ret (.rtF d)
/-- what is returned is new -/
theorem ms_retF (h : ME X .fresh c B W e me) : MS X c B W (.Return (some e) pos) (mRetF me) :=
  ms_mono (ps_ret h) fun D σ H ⟨O, ρ, j, rel, out⟩ => by
    refine ⟨O, ρ, j, rel, ?_⟩
    unfold mRetF bnd at out
    cases q : me ρ j with
    | ok d j1 =>
      rw [q] at out
      exact fun v H1 e1 hj rp => out O ρ σ H1 v (Grow.ex e1) (rel.ex e1 hj) rp
    | exc k g j' =>
      rw [q] at out
      exact fun dx H' v e hj rp hd => out O ρ σ H' dx v (Grow.ex e) (rel.ex e hj) rp hd
    | stk => rw [q] at out; exact out.elim
def mRetN : Env → M Fl := fun _ => ret (.rt .non)
theorem ms_retN : MS X c B W (.Return none pos) mRetN := ms_mono ps_retN fun D σ H ⟨O, ρ, j, rel, out⟩ => out O ρ σ H _ Grow.refl rel rfl
def mDrop (me : Env → M D) : Env → M Fl := fun ρ => bnd (me ρ) fun _ => ret (.nx ρ)
theorem ms_expr (h : ME X .look c B W e me) (hs : swapsWith e none pos.line X.env = pure false := by rfl) : MS X c B W (.Expr e pos) (mDrop me) :=
  ms_mono (ps_expr h hs) fun D σ H ⟨O, ρ, j, rel, out⟩ => rd_bndS rel out fun d j1 v H1 rel1 e1 rp out1 => out1.nx rel1
theorem ms_pass : MS X c B W (.Pass pos) mNext := ms_mono ps_pass fun D σ H ⟨O, ρ, j, rel, out⟩ => out.nx rel
def mBrk : Env → M Fl := fun ρ => ret (.bk ρ)
def mCnt : Env → M Fl := fun ρ => ret (.ct ρ)
theorem ms_break : MS X c B W (.Break pos) mBrk := ms_mono ps_break fun D σ H ⟨O, ρ, j, rel, out⟩ => out O σ H Grow.refl rel
theorem ms_continue : MS X c B W (.Continue pos) mCnt := ms_mono ps_continue fun D σ H ⟨O, ρ, j, rel, out⟩ => out O σ H Grow.refl rel
def mIf (mt : Env → M Bool) (a b : Env → M Fl) : Env → M Fl := fun ρ => bnd (mt ρ) fun k => if k = true then a ρ else b ρ
theorem ms_if {ct : Expr} {as bs : List Stmt} {mt : Env → M Bool} {s1 s2 : Env → M Fl} (ht : MT X c B W ct mt) (h1 : MSs X c B W as s1) (h2 : MSs X c B W bs s2) : MS X c B W (.If ct as bs pos) (mIf mt s1 s2) :=
  ms_mono (ps_if ht h1 h2) fun D σ H ⟨O, ρ, j, rel, out⟩ => rdT_bndS rel out fun k j1 H1 rel1 e1 out1 => by
    cases k with
    | true => exact ⟨O, ρ, j1, rel1, out1⟩
    | false => exact ⟨O, ρ, j1, rel1, out1⟩
/-- code that is not come to -/
theorem ms_never {ms : Env → M Fl} : MS X c B W st fun _ => stuck := ms_mono ps_never fun D σ H ⟨O, ρ, j, rel, out⟩ => out.elim
/-! ### stores -/
theorem Rel.setVal (rel : Rel c B O ρ j σ H) {i : Nat} {d : D} {v : V} (rp : Rep c (O ++ B) H d v) : Rel c B O (ρ.set i (.val d)) j (σ.set i (some v)) H where
  len := by rw [List.length_set, List.length_set]; exact rel.len
  sl := fun k s o h1 h2 => by
    by_cases hk : i = k
    · subst hk
      have hi : i < ρ.length := by
        have := (List.getElem?_eq_some_iff.mp h1).1
        simpa using this
      rw [List.getElem?_set_self hi] at h1
      rw [List.getElem?_set_self (by rw [rel.len]; exact hi)] at h2
      cases h1; cases h2
      exact ⟨v, rfl, rp⟩
    · rw [List.getElem?_set_ne hk] at h1 h2
      exact rel.sl k s o h1 h2
  inj := fun p q s t a h1 h2 o1 o2 g1 g2 => by
    have ne : ∀ k s, (ρ.set i (Sl.val d))[k]? = some s → s.isOwn = true → i ≠ k := fun k s h o e => by
      subst e
      have hi : i < ρ.length := by
        have := (List.getElem?_eq_some_iff.mp h).1
        simpa using this
      rw [List.getElem?_set_self hi] at h
      cases h; cases o
    have n1 := ne p s h1 o1
    have n2 := ne q t h2 o2
    rw [List.getElem?_set_ne n1] at h1 g1
    rw [List.getElem?_set_ne n2] at h2 g2
    exact rel.inj p q s t a h1 h2 o1 o2 g1 g2
  jar := rel.jar
  jB := rel.jB
  dom := rel.dom
  disj := rel.disj
/-- forgetting a slot -/
theorem Rel.forget (rel : Rel c B O ρ j σ H) (i : Nat) (w : Option V) : Rel c B O (ρ.set i .no) j (σ.set i w) H where
  len := by rw [List.length_set, List.length_set]; exact rel.len
  sl := fun k s o h1 h2 => by
    by_cases hk : i = k
    · subst hk
      have hi : i < ρ.length := by
        have := (List.getElem?_eq_some_iff.mp h1).1
        simpa using this
      rw [List.getElem?_set_self hi] at h1
      cases h1
      trivial
    · rw [List.getElem?_set_ne hk] at h1 h2
      exact rel.sl k s o h1 h2
  inj := fun p q s t a h1 h2 o1 o2 g1 g2 => by
    have ne : ∀ k s, (ρ.set i Sl.no)[k]? = some s → s.isOwn = true → i ≠ k := fun k s h o e => by
      subst e
      have hi : i < ρ.length := by
        have := (List.getElem?_eq_some_iff.mp h).1
        simpa using this
      rw [List.getElem?_set_self hi] at h
      cases h; cases o
    have n1 := ne p s h1 o1
    have n2 := ne q t h2 o2
    rw [List.getElem?_set_ne n1] at h1 g1
    rw [List.getElem?_set_ne n2] at h2 g2
    exact rel.inj p q s t a h1 h2 o1 o2 g1 g2
  jar := rel.jar
  jB := rel.jB
  dom := rel.dom
  disj := rel.disj
/-- a target's reading -/
def OutG (c : RC) (B : List Addr) (O : List Addr) (H : Hp) (Q : St → Hp → Prop) : Res Env → Prop
  | .ok ρ j => ∀ O' σ' H', Grow c O H O' H' → Rel c B O' ρ j σ' H' → Q σ' H'
  | _ => False
def rdG (c : RC) (B : List Addr) (mg : D → Env → M Env) : TG := fun v σ H Q => ∃ O ρ j d, Rel c B O ρ j σ H ∧ Rep c (O ++ B) H d v ∧ OutG c B O H Q (mg d ρ j)
abbrev MG (X : Cx) (c : RC) (B : List Addr) (tg : Expr) (mg : D → Env → M Env) : Prop := PG X tg (rdG c B mg)
theorem pg_mono {tg : Expr} {t : TG} {mg : D → Env → M Env} (h : PG X tg t) (hh : ∀ v σ H Q, rdG c B mg v σ H Q → t v σ H Q) : MG X c B tg mg := ⟨fun pins s σ H v u Q I r hq => h.run pins s σ H v u Q I r (hh v σ H Q hq)⟩
def gN (i : Nat) : D → Env → M Env := fun d ρ => ret (ρ.set i (.val d))
theorem mg_name {i : Nat} {x : Str} (hN : X.N.Nodup) (hi : X.N[i]? = some x := by rfl) (hx : Loc X.env.scope x := by first | exact Or.inl rfl | exact Or.inr rfl)
    (hf : X.fn x = true ∨ X.env.scope.names.lookup x = some .local := by first | exact .inl rfl | exact .inr rfl) : MG X c B (.Name x pos) (gN i) :=
  pg_mono (pg_name hN hi hx hf) fun v σ H Q ⟨O, ρ, j, d, rel, rp, out⟩ => out O _ H Grow.refl (rel.setVal rp)
theorem TupAt.grow (g : Grow c O H O' H') (jB : InJ c B) {a : Addr} {vs : List V} (h : TupAt c (O ++ B) H a vs) : TupAt c (O' ++ B) H' a vs := by
  rcases h with ⟨n, o, z, y⟩ | h
  · have nO : a ∉ O := fun q => n (List.mem_append_left _ q)
    have nB : a ∉ B := fun q => n (List.mem_append_right _ q)
    exact .inl ⟨fun q => (List.mem_append.mp q).elim (fun q => (g.own a q).elim nO fun e => by rw [z] at e; cases e) nB, o, g.keep a _ nO (jB.ne nB) z, y⟩
  · exact .inr h
theorem Grow.at (g : Grow c O H O' H') (jB : InJ c B) {a : Addr} {o : HO} (n : a ∉ O ++ B) (z : H a = some o) : a ∉ O' ++ B ∧ H' a = some o := by
  have nO : a ∉ O := fun q => n (List.mem_append_left _ q)
  have nB : a ∉ B := fun q => n (List.mem_append_right _ q)
  exact ⟨fun q => (List.mem_append.mp q).elim (fun q => (g.own a q).elim nO fun e => by rw [z] at e; cases e) nB, g.keep a _ nO (jB.ne nB) z⟩
mutual
theorem Rep.grow (g : Grow c O H O' H') (jB : InJ c B) : ∀ (d : D) (v : V), Rep c (O ++ B) H d v → Rep c (O' ++ B) H' d v
  | .non, _, h => h
  | .bl _, _, h => h
  | .int _, _, h => h
  | .str _, _, h => h
  | .tup ds, _, h => by
    obtain ⟨a, vs, e1, t, r⟩ := h
    exact ⟨a, vs, e1, t.grow g jB, Reps.grow g jB ds vs r⟩
  | .lst ds, _, h => by
    obtain ⟨a, vs, e1, n, t, r⟩ := h
    obtain ⟨n', t'⟩ := g.at jB n t
    exact ⟨a, vs, e1, n', t', Reps.grow g jB ds vs r⟩
  | .dK ks ds, _, h => by
    obtain ⟨a, vs, e1, n, t, l, r⟩ := h
    obtain ⟨n', t'⟩ := g.at jB n t
    exact ⟨a, vs, e1, n', t', l, Reps.grow g jB ds vs r⟩
  | .ins k ns ds, _, h => by
    obtain ⟨a, dx, vs, e1, n, t, l, r⟩ := h
    obtain ⟨n', t'⟩ := g.at jB n t
    exact ⟨a, dx, vs, e1, n', t', l, Reps.grow g jB ds vs r⟩
  | .jar, _, h => h
  | .set ns, _, h => by
    obtain ⟨a, m, e1, n, t⟩ := h
    obtain ⟨n', t'⟩ := g.at jB n t
    exact ⟨a, m, e1, n', t'⟩
  | .scr ns, _, h => by
    obtain ⟨a, e1, t⟩ := h
    exact ⟨a, e1, t.elim (fun ⟨n, o, z, y⟩ => .inl ⟨(g.at jB n z).1, o, (g.at jB n z).2, y⟩) .inr⟩
theorem Reps.grow (g : Grow c O H O' H') (jB : InJ c B) : ∀ (ds : List D) (vs : List V), Reps c (O ++ B) H ds vs → Reps c (O' ++ B) H' ds vs
  | [], _, h => h
  | d :: ds, _, h => by
    obtain ⟨v, r, e1, h1, h2⟩ := h
    exact ⟨v, r, e1, Rep.grow g jB d v h1, Reps.grow g jB ds r h2⟩
end
/-- targets, one behind the other -/
def rdGs (c : RC) (B : List Addr) (mg : List D → Env → M Env) : TGs := fun vs σ H Q => ∃ O ρ j ds, Rel c B O ρ j σ H ∧ Reps c (O ++ B) H ds vs ∧ OutG c B O H Q (mg ds ρ j)
abbrev MGs (X : Cx) (c : RC) (B : List Addr) (tgs : List Expr) (mg : List D → Env → M Env) : Prop := PGs X tgs (rdGs c B mg)
def gsNil : List D → Env → M Env := fun ds ρ => match ds with
  | [] => ret ρ
  | _ => stuck
/-- no exception comes -/
def nox {α : Type} (m : M α) : M α := fun j => match m j with
  | .ok a j' => .ok a j'
  | _ => .stk
def gsCons (g : D → Env → M Env) (r : List D → Env → M Env) : List D → Env → M Env := fun ds ρ => match ds with
  | d :: ds => bnd (g d ρ) fun ρ' => r ds ρ'
  | [] => stuck
theorem mgs_nil : MGs X c B [] gsNil := ⟨fun pins s σ H vs us Q I r ⟨O, ρ, j, ds, rel, rp, out⟩ => by
  refine pgs_nil.run pins s σ H vs us Q I r ?_
  cases ds with
  | nil => exact ⟨rp, out O σ H Grow.refl rel⟩
  | cons d ds => exact out.elim⟩
theorem OutG.grow {Q : St → Hp → Prop} {r : Res Env} (g : Grow c O H O' H') (h : OutG c B O H Q r) : OutG c B O' H' Q r := by
  cases r with
  | ok ρ j => exact fun O2 σ2 H2 g2 rel => h O2 σ2 H2 (g.trans g2 rel.jO) rel
  | exc k x j => exact h
  | stk => exact h
theorem mgs_cons {e : Expr} {es : List Expr} {g : D → Env → M Env} {r : List D → Env → M Env} (h1 : MG X c B e g) (h2 : MGs X c B es r)
    (hs : (assignEach (e :: es) X.env).map (·.2) = assign e X.env :: (assignEach es X.env).map (·.2) := by rfl) : MGs X c B (e :: es) (gsCons g r) := ⟨fun pins s σ H vs us Q I rr ⟨O, ρ, j, ds, rel, rp, out⟩ => by
  refine (pgs_cons h1 h2 hs).run pins s σ H vs us Q I rr ?_
  cases ds with
  | nil => exact out.elim
  | cons d ds =>
    obtain ⟨v, w, e1, q1, q2⟩ := rp
    refine ⟨v, w, e1, O, ρ, j, d, rel, q1, ?_⟩
    have out : OutG c B O H Q (bnd (g d ρ) (fun ρ' => r ds ρ') j) := out
    unfold bnd at out
    cases q : g d ρ j with
    | ok ρ2 j2 =>
      rw [q] at out
      exact fun O2 σ2 H2 g2 rel2 => ⟨O2, ρ2, j2, ds, rel2, Reps.grow g2 rel.jB ds w q2, out.grow g2⟩
    | exc k x j' => rw [q] at out; exact out
    | stk => rw [q] at out; exact out⟩
def gTupD (n : Nat) (r : List D → Env → M Env) : D → Env → M Env := fun d ρ => match d with
  | .tup ds => if ds.length = n then r ds ρ else stuck
  | _ => stuck
theorem mg_tup {es : List Expr} {k n : Nat} {r : List D → Env → M Env} (hK : X.K = c.K) (hc : X.calm = true) (h : MGs X c B es r) (hn : (assignEach es X.env).length = n := by rfl) (hst : (assignEach es X.env).findIdx? (·.1) = none := by rfl) :
    MG X c B (.Tuple es k pos) (gTupD n r) := pg_mono (pg_tup hc h hn hst) fun v σ H Q ⟨O, ρ, j, d, rel, rp, out⟩ => by
  cases d <;> first | exact out.elim | skip
  rename_i ds
  obtain ⟨a, vs, e1, t, rs⟩ := rp
  have out : OutG c B O H Q ((if ds.length = n then r ds ρ else stuck) j) := out
  by_cases hl : ds.length = n
  · rw [if_pos hl] at out
    exact ⟨a, vs, e1, hK ▸ t.sq, by rw [← rs.len]; exact hl, O, ρ, j, ds, rel, rs, out⟩
  · rw [if_neg hl] at out
    exact out.elim
/-- the same of a list -/
def gLstD (n : Nat) (r : List D → Env → M Env) : D → Env → M Env := fun d ρ => match d with
  | .lst ds => if ds.length = n then r ds ρ else stuck
  | _ => stuck
theorem mg_lst {es : List Expr} {k n : Nat} {r : List D → Env → M Env} (hc : X.calm = true) (h : MGs X c B es r) (hn : (assignEach es X.env).length = n := by rfl) (hst : (assignEach es X.env).findIdx? (·.1) = none := by rfl) :
    MG X c B (.Tuple es k pos) (gLstD n r) := pg_mono (pg_unl hc h hn hst) fun v σ H Q ⟨O, ρ, j, d, rel, rp, out⟩ => by
  cases d <;> first | exact out.elim | skip
  rename_i ds
  obtain ⟨a, vs, e1, n', t, rs⟩ := rp
  have out : OutG c B O H Q ((if ds.length = n then r ds ρ else stuck) j) := out
  by_cases hl : ds.length = n
  · rw [if_pos hl] at out
    exact ⟨a, vs, e1, SqL.of t, by rw [← rs.len]; exact hl, O, ρ, j, ds, rel, rs, out⟩
  · rw [if_neg hl] at out
    exact out.elim
def mAsg (me : Env → M D) (mg : D → Env → M Env) : Env → M Fl := fun ρ => bnd (me ρ) fun d => bnd (nox (mg d ρ)) fun ρ' => ret (.nx ρ')
theorem nox_out {mg : M Env} {Q : St → Hp → Prop} {D' : Ends} (out : OutS c B W D' O H (bnd (nox mg) (fun ρ' => ret (.nx ρ')) j)) : OutG c B O H D'.nx (mg j) := by
  unfold bnd nox at out
  cases q : mg j with
  | ok ρ2 j2 => rw [q] at out; exact fun O' σ' H' g rel' => out O' σ' H' g rel'
  | exc k g j' => rw [q] at out; exact out
  | stk => rw [q] at out; exact out
theorem ms_asg {tg : Expr} {mg : D → Env → M Env} (he : ME X .keep c B W e me) (hg : MG X c B tg mg) (hs : swapsWithSole [tg] e pos.line X.env = pure false := by rfl) (hw : swappedStores [tg] e X.env = pure none := by rfl)
    (h1 : (assignEach [tg] X.env).map (·.2) = [assign tg X.env] := by rfl) : MS X c B W (.Assign [tg] e pos) (mAsg me mg) :=
  ms_mono (ps_asg he hg hs hw h1) fun D σ H ⟨O, ρ, j, rel, out⟩ => rd_bndS rel out fun d j1 v H1 rel1 e1 rp out1 => ⟨O, ρ, j1, d, rel1, rp, nox_out (Q := D.nx) out1⟩
/-- x = e -/
def mSet (i : Nat) (me : Env → M D) : Env → M Fl := fun ρ => bnd (me ρ) fun d => ret (.nx (ρ.set i (.val d)))
theorem ms_set {i : Nat} {x : Str} {p : Pos} (he : ME X .keep c B W e me) (hN : X.N.Nodup) (hi : X.N[i]? = some x := by rfl) (hx : Loc X.env.scope x := by first | exact Or.inl rfl | exact Or.inr rfl)
    (hs : swapsWithSole [.Name x p] e pos.line X.env = pure false := by rfl) (hw : swappedStores [.Name x p] e X.env = pure none := by rfl)
    (hf : X.fn x = true ∨ X.env.scope.names.lookup x = some .local := by first | exact .inl rfl | exact .inr rfl)
    (h1 : (assignEach [.Name x p] X.env).map (·.2) = [assign (.Name x p) X.env] := by rfl) : MS X c B W (.Assign [.Name x p] e pos) (mSet i me) :=
  ms_mono (ps_asg he (pg_name hN hi hx hf) hs hw h1) fun D σ H ⟨O, ρ, j, rel, out⟩ => rd_bndS rel out fun d j1 v H1 rel1 e1 rp out1 => out1 O _ H1 Grow.refl (rel1.setVal rp)
/-! ### own lists -/
/-- what has just been made becomes the def's own -/
theorem Rel.setOwn (rel : Rel c B O ρ j σ H) {i : Nat} {s : Sl} {a : Addr} (na : a ∉ O ++ B) (ha : H a ≠ none) (hs : SlR c ((a :: O) ++ B) (a :: O) H s (some (.ref a))) (old : ∀ (k : Nat) (t : Sl) (o : Option V), i ≠ k → ρ[k]? = some t → σ[k]? = some o → SlR c ((a :: O) ++ B) (a :: O) H t o)
    (nk : ∀ (k : Nat) (t : Sl), i ≠ k → ρ[k]? = some t → t.isOwn = true → σ[k]? ≠ some (some (.ref a))) : Rel c B (a :: O) (ρ.set i s) j (σ.set i (some (.ref a))) H where
  len := by rw [List.length_set, List.length_set]; exact rel.len
  sl := fun k t o h1 h2 => by
    by_cases hk : i = k
    · subst hk
      have hi : i < ρ.length := by
        have := (List.getElem?_eq_some_iff.mp h1).1
        simpa using this
      rw [List.getElem?_set_self hi] at h1
      rw [List.getElem?_set_self (by rw [rel.len]; exact hi)] at h2
      cases h1; cases h2
      exact hs
    · rw [List.getElem?_set_ne hk] at h1 h2
      exact old k t o hk h1 h2
  inj := fun p q t u x h1 h2 o1 o2 g1 g2 => by
    by_cases e1 : i = p
    · by_cases e2 : i = q
      · exact e1.symm.trans e2
      · subst e1
        have hi : i < σ.length := by
          have := (List.getElem?_eq_some_iff.mp g1).1
          simpa using this
        rw [List.getElem?_set_self hi] at g1
        cases g1
        rw [List.getElem?_set_ne e2] at h2 g2
        exact absurd g2 (nk q u e2 h2 o2)
    · by_cases e2 : i = q
      · subst e2
        have hi : i < σ.length := by
          have := (List.getElem?_eq_some_iff.mp g2).1
          simpa using this
        rw [List.getElem?_set_self hi] at g2
        cases g2
        rw [List.getElem?_set_ne e1] at h1 g1
        exact absurd g1 (nk p t e1 h1 o1)
      · rw [List.getElem?_set_ne e1] at h1 g1
        rw [List.getElem?_set_ne e2] at h2 g2
        exact rel.inj p q t u x h1 h2 o1 o2 g1 g2
  jar := rel.jar
  jB := rel.jB
  dom := fun x hx => by
    rcases List.mem_cons.mp hx with e | hx
    · subst e; exact ha
    · exact rel.dom x hx
  disj := fun x hx => by
    rcases List.mem_cons.mp hx with e | hx
    · subst e; exact fun q => na (List.mem_append_right _ q)
    · exact rel.disj x hx
end
end Mir
set_option Elab.async false
set_option linter.all false
set_option maxRecDepth 100000
set_option maxHeartbeats 4000000
/-! Mir4: the def's own lists, for loops, comprehensions by mirrors. -/
namespace Mir
open PySem L2
section
variable {X : Cx} {m : Md} {c : RC} {B O O' L : List Addr} {W : WX} {e a b : Expr} {me ma mb : Env → M D} {pos : Pos} {σ : St} {H H' : Hp} {Q : VK} {ρ : Env} {j : List Int} {D' : Ends} {st : Stmt} {sts : List Stmt}
theorem rd_bndS0 {m' : Md} {P : VK} {k : D → M Fl} (rel : Rel c B O ρ j σ H) (out : OutS c B W D' O H (bnd (ma ρ) k j))
    (hP : ∀ d j1 v H1, Rel c B O ρ j1 σ H1 → Ex c H H1 → RepM m' c (O ++ B) H H1 d v → OutS c B W D' O H (k d j1) → P v H1) : rd m' c B W ma σ H P := by
  refine ⟨O, ρ, j, rel, ?_⟩
  unfold bnd at out
  cases q : ma ρ j with
  | ok d j1 =>
    rw [q] at out
    exact fun v H1 e hj rp => hP d j1 v H1 (rel.ex e hj) e rp out
  | exc k g j' =>
    rw [q] at out
    exact fun dx H' v e hj rp hd => out O ρ σ H' dx v (Grow.ex e) (rel.ex e hj) rp hd
  | stk => rw [q] at out; exact out.elim
theorem SlR.add {p : Addr} {s : Sl} {o : Option V} (hp : H p = none) (h : SlR c L O H s o) : SlR c (p :: L) (p :: O) H s o := by
  cases s with
  | no => trivial
  | val d => obtain ⟨v, e1, r⟩ := h; exact ⟨v, e1, Rep.add hp d v r⟩
  | own ds => obtain ⟨a, vs, e1, mm, t, r⟩ := h; exact ⟨a, vs, e1, List.mem_cons_of_mem _ mm, t, Reps.add hp ds vs r⟩
  | ownD ks ds => obtain ⟨a, vs, e1, mm, t, l, r⟩ := h; exact ⟨a, vs, e1, List.mem_cons_of_mem _ mm, t, l, Reps.add hp ds vs r⟩
  | ownI k ns ds => obtain ⟨a, dx, vs, e1, mm, t, l, r⟩ := h; exact ⟨a, dx, vs, e1, List.mem_cons_of_mem _ mm, t, l, Reps.add hp ds vs r⟩
theorem SlR.ex {s : Sl} {o : Option V} (hJ : InJ c L) (nJ : ∀ x ∈ O, x ∉ c.Js) (e : Ex c H H') (h : SlR c L O H s o) : SlR c L O H' s o :=
  h.exS hJ (fun x hx => nJ x hx) e
/-- whether the def keeps a list for itself -/
def slOf (o : Bool) (d : D) : Sl := if o = true then (match d with
  | .lst ds => .own ds
  | .dK ks ds => .ownD ks ds
  | d => .val d) else .val d
def mdOf (o : Bool) : Md := if o = true then .fresh else .keep
/-- a value is stored; H0: ahead of its making -/
theorem Rel.setSl {o : Bool} {H0 : Hp} {j0 : List Int} (rel0 : Rel c B O ρ j0 σ H0) (e1 : Ex c H0 H) (rel : Rel c B O ρ j σ H) {i : Nat} {d : D} {v : V} (rp : RepM (mdOf o) c (O ++ B) H0 H d v) :
    ∃ O', Grow c O H0 O' H ∧ Rel c B O' (ρ.set i (slOf o d)) j (σ.set i (some v)) H := by
  have plain : Rep c (O ++ B) H d v → ∃ O', Grow c O H0 O' H ∧ Rel c B O' (ρ.set i (.val d)) j (σ.set i (some v)) H := fun r => ⟨O, Grow.ex e1, rel.setVal r⟩
  have own : ∀ (a : Addr) (s : Sl), a ∉ O ++ B → H0 a = none → H a ≠ none → SlR c ((a :: O) ++ B) (a :: O) H s (some (.ref a)) → ∃ O', Grow c O H0 O' H ∧ Rel c B O' (ρ.set i s) j (σ.set i (some (.ref a))) H := fun a s na h0 ha hs => by
    refine ⟨a :: O, ⟨fun x q _ z h => e1.at z h, fun x hx => (List.mem_cons.mp hx).elim (fun e => .inr (e ▸ h0)) .inl, (Grow.ex (O := O) e1).dom⟩, rel.setOwn na ha hs (fun k t w _ h1 h2 => ?_) fun k t _ h1 ho h2 => ?_⟩
    · refine SlR.ex (InJ.cons rel.jL) (fun x hx => ?_) e1 ((rel0.sl k t w h1 h2).add h0)
      rcases List.mem_cons.mp hx with q | q
      · rw [q]; exact rel.jL.ne na
      · exact rel.oJ q
    · have hs := rel0.sl k t _ h1 h2
      cases t with
      | no => cases ho
      | val _ => cases ho
      | own ds => obtain ⟨a', vs, q, _, t', _⟩ := hs; cases q; rw [h0] at t'; cases t'
      | ownD ks ds => obtain ⟨a', vs, q, _, t', _⟩ := hs; cases q; rw [h0] at t'; cases t'
      | ownI k ns ds => obtain ⟨a', dx, vs, q, _, t', _⟩ := hs; cases q; rw [h0] at t'; cases t'
  cases o with
  | false => exact plain rp
  | true =>
    cases d with
    | lst ds =>
      obtain ⟨a, vs, rfl, na, h0, t, r⟩ := rp
      exact own a _ na h0 (by rw [t]; exact fun z => nomatch z) ⟨a, vs, rfl, List.mem_cons_self, t, r⟩
    | dK ks ds =>
      obtain ⟨a, vs, rfl, na, h0, t, l, r⟩ := rp
      exact own a _ na h0 (by rw [t]; exact fun z => nomatch z) ⟨a, vs, rfl, List.mem_cons_self, t, l, r⟩
    | _ => exact plain (RepF.keep (H0 := H0) rp)
/-- x = e, x the def's own from here on if it is a list or a dict -/
def mSetO (i : Nat) (me : Env → M D) : Env → M Fl := fun ρ => bnd (me ρ) fun d => ret (.nx (ρ.set i (slOf true d)))
theorem ms_setO {i : Nat} {x : Str} {p : Pos} (he : ME X .fresh c B W e me) (hN : X.N.Nodup) (hi : X.N[i]? = some x := by rfl) (hx : Loc X.env.scope x := by first | exact Or.inl rfl | exact Or.inr rfl)
    (hs : swapsWithSole [.Name x p] e pos.line X.env = pure false := by rfl) (hw : swappedStores [.Name x p] e X.env = pure none := by rfl)
    (hf : X.fn x = true ∨ X.env.scope.names.lookup x = some .local := by first | exact .inl rfl | exact .inr rfl)
    (h1 : (assignEach [.Name x p] X.env).map (·.2) = [assign (.Name x p) X.env] := by rfl) : MS X c B W (.Assign [.Name x p] e pos) (mSetO i me) :=
  ms_mono (ps_asg he (pg_name hN hi hx hf) hs hw h1) fun D σ H ⟨O, ρ, j, rel, out⟩ => rd_bndS0 rel out fun d j1 v H1 rel1 e1 rp out1 => by
    obtain ⟨O', g, r'⟩ := Rel.setSl (o := true) rel e1 rel1 (i := i) rp
    exact out1 O' _ H1 g r'
/-- the own list of slot i is no longer changed -/
def frz (i : Nat) (ρ : Env) : Env := match ρ[i]? with
  | some (.own ds) => ρ.set i (.val (.lst ds))
  | some (.ownD ks ds) => ρ.set i (.val (.dK ks ds))
  | some (.ownI k ns ds) => ρ.set i (.val (.ins k ns ds))
  | _ => ρ
theorem OutS.less {r : Res Fl} (hs : ∀ a ∈ O', a ∈ O) (h : OutS c B W D' O H r) : OutS c B W D' O' H r := by
  have g : ∀ {O2 : List Addr} {H2 : Hp}, Grow c O' H O2 H2 → Grow c O H O2 H2 := fun g => ⟨fun a o n z h => g.keep a o (fun q => n (hs a q)) z h, fun a q => (g.own a q).elim (fun z => .inl (hs a z)) .inr, g.dom⟩
  cases r with
  | stk => exact h
  | exc k x j => exact fun O2 ρ' σ' H2 dx v g' rel rp hd => h O2 ρ' σ' H2 dx v (g g') rel rp hd
  | ok f j =>
    cases f with
    | nx ρ => exact fun O2 σ' H2 g' rel => h O2 σ' H2 (g g') rel
    | bk ρ => exact fun O2 σ' H2 g' rel => h O2 σ' H2 (g g') rel
    | ct ρ => exact fun O2 σ' H2 g' rel => h O2 σ' H2 (g g') rel
    | rt d => exact fun O2 ρ' σ' H2 v g' rel rp => h O2 ρ' σ' H2 v (g g') rel rp
    | rtF d => exact fun O2 ρ' σ' H2 v g' rel rp => h O2 ρ' σ' H2 v (g g') rel rp
theorem Rel.frzAt (rel : Rel c B O ρ j σ H) {i : Nat} {s : Sl} {d : D} {a : Addr} (h1 : ρ[i]? = some s) (ho : s.isOwn = true) (h2 : σ[i]? = some (some (.ref a))) (aO : a ∈ O)
    (hd : ∀ L', a ∉ L' → (∀ x ∈ L', x ∈ O ++ B) → Rep c L' H d (.ref a)) : ∃ O', (∀ x ∈ O', x ∈ O) ∧ Rel c B O' (ρ.set i (.val d)) j σ H := by
  refine ⟨O.filter (fun x => decide (x ≠ a)), fun x hx => (List.mem_filter.mp hx).1, ?_⟩
  have sub : ∀ x ∈ O.filter (fun x => decide (x ≠ a)) ++ B, x ∈ O ++ B := fun x hx => (List.mem_append.mp hx).elim (fun z => List.mem_append_left _ (List.mem_filter.mp z).1) (List.mem_append_right _)
  have na : a ∉ O.filter (fun x => decide (x ≠ a)) ++ B := fun hx => (List.mem_append.mp hx).elim (fun z => absurd rfl (of_decide_eq_true (List.mem_filter.mp z).2)) (rel.disj a aO)
  have hi : i < ρ.length := (List.getElem?_eq_some_iff.mp h1).1
  refine ⟨by rw [List.length_set]; exact rel.len, fun k t w q1 q2 => ?_, fun p q t u x q1 q2 o1 o2 g1 g2 => ?_, rel.jar, rel.jB, fun x hx => rel.dom x (sub x hx), fun x hx => rel.disj x (List.mem_filter.mp hx).1⟩
  · by_cases hk : i = k
    · subst hk
      rw [List.getElem?_set_self hi] at q1
      cases q1
      rw [h2] at q2; cases q2
      exact ⟨.ref a, rfl, hd _ na sub⟩
    · rw [List.getElem?_set_ne hk] at q1
      have hs := rel.sl k t w q1 q2
      have ne : ∀ a', t.isOwn = true → w = some (.ref a') → a' ≠ a := fun a' o1 e z => by
        subst z e
        exact hk (rel.inj i k s t a' h1 q1 ho o1 h2 q2)
      cases t with
      | no => trivial
      | val d' => obtain ⟨v, e1, r⟩ := hs; exact ⟨v, e1, Rep.sub sub d' v r⟩
      | own ds => obtain ⟨a', vs, e1, mm, t, r⟩ := hs; exact ⟨a', vs, e1, List.mem_filter.mpr ⟨mm, decide_eq_true (ne a' rfl e1)⟩, t, Reps.sub sub ds vs r⟩
      | ownD ks ds => obtain ⟨a', vs, e1, mm, t, l, r⟩ := hs; exact ⟨a', vs, e1, List.mem_filter.mpr ⟨mm, decide_eq_true (ne a' rfl e1)⟩, t, l, Reps.sub sub ds vs r⟩
      | ownI k' ns ds => obtain ⟨a', dx, vs, e1, mm, t, l, r⟩ := hs; exact ⟨a', dx, vs, e1, List.mem_filter.mpr ⟨mm, decide_eq_true (ne a' rfl e1)⟩, t, l, Reps.sub sub ds vs r⟩
  · have nk : ∀ k t, (ρ.set i (Sl.val d))[k]? = some t → t.isOwn = true → i ≠ k := fun k t h o e => by
      subst e
      rw [List.getElem?_set_self hi] at h
      cases h; cases o
    have n1 := nk p t q1 o1
    have n2 := nk q u q2 o2
    rw [List.getElem?_set_ne n1] at q1
    rw [List.getElem?_set_ne n2] at q2
    exact rel.inj p q t u x q1 q2 o1 o2 g1 g2
theorem Rel.frz (rel : Rel c B O ρ j σ H) (i : Nat) : ∃ O', (∀ x ∈ O', x ∈ O) ∧ Rel c B O' (Mir.frz i ρ) j σ H := by
  unfold Mir.frz
  cases q : ρ[i]? with
  | none => exact ⟨O, fun _ h => h, rel⟩
  | some s =>
    have hi : i < σ.length := by rw [rel.len]; exact (List.getElem?_eq_some_iff.mp q).1
    have hs := rel.sl i s σ[i] q (by simp [hi])
    have hg : σ[i]? = some σ[i] := by simp [hi]
    cases s with
    | no => exact ⟨O, fun _ h => h, rel⟩
    | val d => exact ⟨O, fun _ h => h, rel⟩
    | own ds =>
      obtain ⟨a, vs, e1, mm, t, r⟩ := hs
      rw [e1] at hg
      exact rel.frzAt q rfl hg mm fun L' na sub => ⟨a, vs, rfl, na, t, Reps.sub sub ds vs r⟩
    | ownD ks ds =>
      obtain ⟨a, vs, e1, mm, t, l, r⟩ := hs
      rw [e1] at hg
      exact rel.frzAt q rfl hg mm fun L' na sub => ⟨a, vs, rfl, na, t, l, Reps.sub sub ds vs r⟩
    | ownI k ns ds =>
      obtain ⟨a, dx, vs, e1, mm, t, l, r⟩ := hs
      rw [e1] at hg
      exact rel.frzAt q rfl hg mm fun L' na sub => ⟨a, dx, vs, rfl, na, t, l.1, Reps.sub sub ds vs r⟩
def mFrz (i : Nat) (ms : Env → M Fl) : Env → M Fl := fun ρ => ms (frz i ρ)
theorem mss_frz {ms : Env → M Fl} (i : Nat) (h : MSs X c B W sts ms) : MSs X c B W sts (mFrz i ms) := mss_mono h fun D σ H ⟨O, ρ, j, rel, out⟩ => by
  obtain ⟨O', hs, rel'⟩ := rel.frz i
  exact ⟨O', frz i ρ, j, rel', OutS.less hs out⟩
/-! ### changing an own object -/
theorem Rel.mut (rel : Rel c B O ρ j σ H) {i : Nat} {s s' : Sl} {a : Addr} {o : HO} (h1 : ρ[i]? = some s) (ho : s.isOwn = true) (ho' : s'.isOwn = true) (h2 : σ[i]? = some (some (.ref a))) (aO : a ∈ O)
    (new : SlR c (O ++ B) O (upd H a o) s' (some (.ref a))) : Rel c B O (ρ.set i s') j σ (upd H a o) := by
  have hi : i < ρ.length := (List.getElem?_eq_some_iff.mp h1).1
  have e : ExS [a] H (upd H a o) := fun x u n h => by rw [upd_ne (by simpa using n)]; exact h
  have ms : ∀ x ∈ [a], x ∈ O ++ B := mem1 (List.mem_append_left _ aO)
  refine ⟨by rw [List.length_set]; exact rel.len, fun k t w q1 q2 => ?_, fun p q t u x q1 q2 o1 o2 g1 g2 => ?_, ?_, rel.jB, fun x hx h0 => ?_, rel.disj⟩
  · by_cases hk : i = k
    · subst hk
      rw [List.getElem?_set_self hi] at q1
      cases q1
      rw [h2] at q2; cases q2
      exact new
    · rw [List.getElem?_set_ne hk] at q1
      have hs := rel.sl k t w q1 q2
      have ne : ∀ a', t.isOwn = true → w = some (.ref a') → a' ∉ [a] := fun a' o1 e1 z => by
        have z : a' = a := by simpa using z
        subst z e1
        exact hk (rel.inj i k s t a' h1 q1 ho o1 h2 q2)
      cases t with
      | no => trivial
      | val d' => obtain ⟨v, e1, r⟩ := hs; exact ⟨v, e1, Rep.exS ms e d' v r⟩
      | own ds => obtain ⟨a', vs, e1, mm, t, r⟩ := hs; exact ⟨a', vs, e1, mm, e a' _ (ne a' rfl e1) t, Reps.exS ms e ds vs r⟩
      | ownD ks ds => obtain ⟨a', vs, e1, mm, t, l, r⟩ := hs; exact ⟨a', vs, e1, mm, e a' _ (ne a' rfl e1) t, l, Reps.exS ms e ds vs r⟩
      | ownI k' ns ds => obtain ⟨a', dx, vs, e1, mm, t, l, r⟩ := hs; exact ⟨a', dx, vs, e1, mm, e a' _ (ne a' rfl e1) t, l, Reps.exS ms e ds vs r⟩
  · have back : ∀ (k : Nat) (t : Sl), (ρ.set i s')[k]? = some t → t.isOwn = true → ∃ t' : Sl, ρ[k]? = some t' ∧ t'.isOwn = true := fun k t h ho => by
      by_cases e : i = k
      · subst e; exact ⟨s, h1, by assumption⟩
      · rw [List.getElem?_set_ne e] at h; exact ⟨t, h, ho⟩
    obtain ⟨t', r1, s1⟩ := back p t q1 o1
    obtain ⟨u', r2, s2⟩ := back q u q2 o2
    exact rel.inj p q t' u' x r1 r2 s1 s2 g1 g2
  · exact rel.jar.same fun y hy => upd_ne fun e => rel.oJ aO (e ▸ hy)
  · by_cases z : x = a
    · subst z; rw [upd_same] at h0; cases h0
    · rw [upd_ne z] at h0; exact rel.dom x hx h0
theorem Grow.mut {a : Addr} {o : HO} (aO : a ∈ O) : Grow c O H O (upd H a o) := ⟨fun x u n _ h => by rw [upd_ne (fun e : x = a => n (e.symm ▸ aO))]; exact h, fun _ h => .inl h, fun x _ h => by
  by_cases z : x = a
  · subst z; rw [upd_same]; exact fun w => nomatch w
  · rw [upd_ne z]; exact h⟩
theorem Rel.own (rel : Rel c B O ρ j σ H) {i : Nat} {ds : List D} (h : ρ[i]? = some (.own ds)) : ∃ a vs, σ[i]? = some (some (.ref a)) ∧ a ∈ O ∧ H a = some (.lst vs) ∧ Reps c (O ++ B) H ds vs := by
  have hi : i < σ.length := by rw [rel.len]; exact (List.getElem?_eq_some_iff.mp h).1
  obtain ⟨a, vs, e1, mm, t, r⟩ := rel.sl i _ σ[i] h (by simp [hi])
  exact ⟨a, vs, by simp [hi, e1], mm, t, r⟩
theorem Reps.upd {a : Addr} {o : HO} {ds : List D} {vs : List V} (aL : a ∈ L) (h : Reps c L H ds vs) : Reps c L (upd H a o) ds vs :=
  Reps.exS (S := [a]) (mem1 aL) (fun x u n h => by rw [upd_ne (by simpa using n)]; exact h) ds vs h
theorem Rep.upd {a : Addr} {o : HO} {d : D} {v : V} (aL : a ∈ L) (h : Rep c L H d v) : Rep c L (upd H a o) d v :=
  Rep.exS (S := [a]) (mem1 aL) (fun x u n h => by rw [upd_ne (by simpa using n)]; exact h) d v h
/-- what a method's call of one argument asks of the text -/
structure M1Ok (X : Cx) (o : Expr) (nm : Str) (p2 : Pos) (e : Expr) (p3 : Pos) : Prop where
  b : attributeBase o nm X.env (eval o X.env) = eval o X.env
  few : ((((backTo p3 (starEach [e] X.env)).all fun x => !x.fst) && (backToKw p3 (keywordEach [] X.env)).all fun x => x.fst.isSome) && decide (([e].length + ([] : List Keyword).length + if ([] : List Keyword).isEmpty = true then 0 else 1) < 30)) = true
  line : (p2.endLine == p3.line) = true
  st : starEach [e] X.env = (false, eval e X.env) :: starEach [] X.env
  pl : ((backTo p3 (starEach [] X.env)).any fun x => x.fst) = false
/-- x.append(e) -/
def mApp (i : Nat) (me : Env → M D) : Env → M Fl := fun ρ => match ρ[i]? with
  | some (.own ds) => bnd (me ρ) fun d => if ds.length < LIM then ret (.nx (ρ.set i (.own (ds ++ [d])))) else stuck
  | _ => stuck
theorem ms_append {i : Nat} {x : Str} {p p2 p3 : Pos} (he : ME X .keep c B W e me) (k : M1Ok X (.Name x p) "append" p2 e p3) (hi : X.N[i]? = some x := by rfl) (hv : Vis X.env.scope x := by first | exact Or.inl rfl | exact Or.inr (Or.inl rfl) | exact Or.inr (Or.inr rfl))
    (hd : (x == ("__debug__" : Str)) = false := by decide) (hcd : (x == ("__classdict__" : Str)) = false := by decide)
    (hs : swapsWith (.Call (.Attribute (.Name x p) "append" p2) [e] [] p3) none pos.line X.env = pure false := by rfl) :
    MS X c B W (.Expr (.Call (.Attribute (.Name x p) "append" p2) [e] [] p3) pos) (mApp i me) := by
  refine ms_mono (ps_expr (pe_bm PySem.F.plainAttrs_list PySem.F.slot_list_append PySem.F.type_list_append mt_append (pe_var hi hv hd hcd) (pa_cons he pa_nil k.st) k.b k.few k.line k.st k.pl) hs) fun D σ H ⟨O, ρ, j, rel, out⟩ => ?_
  unfold mApp at out
  cases q : ρ[i]? with
  | none => rw [q] at out; exact out.elim
  | some s =>
    rw [q] at out
    cases s <;> first | exact out.elim | skip
    rename_i ds
    obtain ⟨a, vs, e1, aO, t, r⟩ := rel.own q
    refine ⟨.ref a, e1, .inl ⟨rfl, _, SqL.of t⟩, rd_bndS (m' := .keep) (k := fun d => if ds.length < LIM then ret (.nx (ρ.set i (.own (ds ++ [d])))) else stuck) rel out fun d j1 v H1 rel1 ee rp out1 => ?_⟩
    have out1 : OutS c B W D O H1 ((if ds.length < LIM then ret (.nx (ρ.set i (.own (ds ++ [d])))) else stuck : M Fl) j1) := out1
    by_cases hl : ds.length < LIM
    · rw [if_pos hl] at out1
      refine ⟨a, vs, v, rfl, rfl, ee.at (rel.oJ aO) t, by rw [← r.len]; exact lim_lt hl, ?_⟩
      refine out1 O σ _ (Grow.mut aO) (rel1.mut q rfl rfl e1 aO ⟨a, _, rfl, aO, upd_same, ?_⟩)
      exact Reps.upd (List.mem_append_left _ aO) ((Reps.ex rel.jL ee r).app (Reps.one rp))
    · rw [if_neg hl] at out1
      exact out1.elim
/-- x.extend(e), e a list -/
def mExt (i : Nat) (me : Env → M D) : Env → M Fl := fun ρ => match ρ[i]? with
  | some (.own ds) => bnd (me ρ) fun d => match d with
    | .lst es => if ds.length + es.length ≤ LIM then ret (.nx (ρ.set i (.own (ds ++ es)))) else stuck
    | _ => stuck
  | _ => stuck
theorem ms_extend {i : Nat} {x : Str} {p p2 p3 : Pos} (he : ME X .keep c B W e me) (k : M1Ok X (.Name x p) "extend" p2 e p3) (hi : X.N[i]? = some x := by rfl) (hv : Vis X.env.scope x := by first | exact Or.inl rfl | exact Or.inr (Or.inl rfl) | exact Or.inr (Or.inr rfl))
    (hd : (x == ("__debug__" : Str)) = false := by decide) (hcd : (x == ("__classdict__" : Str)) = false := by decide)
    (hs : swapsWith (.Call (.Attribute (.Name x p) "extend" p2) [e] [] p3) none pos.line X.env = pure false := by rfl) :
    MS X c B W (.Expr (.Call (.Attribute (.Name x p) "extend" p2) [e] [] p3) pos) (mExt i me) := by
  refine ms_mono (ps_expr (pe_bm PySem.F.plainAttrs_list PySem.F.slot_list_extend PySem.F.type_list_extend mt_extend (pe_var hi hv hd hcd) (pa_cons he pa_nil k.st) k.b k.few k.line k.st k.pl) hs) fun D σ H ⟨O, ρ, j, rel, out⟩ => ?_
  unfold mExt at out
  cases q : ρ[i]? with
  | none => rw [q] at out; exact out.elim
  | some s =>
    rw [q] at out
    cases s <;> first | exact out.elim | skip
    rename_i ds
    obtain ⟨a, vs, e1, aO, t, r⟩ := rel.own q
    refine ⟨.ref a, e1, .inl ⟨rfl, _, SqL.of t⟩, rd_bndS (m' := .keep) (k := fun d => match d with
      | .lst es => if ds.length + es.length ≤ LIM then ret (.nx (ρ.set i (.own (ds ++ es)))) else stuck
      | _ => stuck) rel out fun d j1 v H1 rel1 ee rp out1 => ?_⟩
    cases d <;> first | exact out1.elim | skip
    rename_i es
    obtain ⟨b, ws, rfl, nb, t2, r2⟩ := rp
    have out1 : OutS c B W D O H1 ((if ds.length + es.length ≤ LIM then ret (.nx (ρ.set i (.own (ds ++ es)))) else stuck : M Fl) j1) := out1
    by_cases hl : ds.length + es.length ≤ LIM
    · rw [if_pos hl] at out1
      refine ⟨a, b, vs, ws, rfl, rfl, ee.at (rel.oJ aO) t, t2, by rw [← r.len, ← r2.len]; exact lim_le hl, ?_⟩
      refine out1 O σ _ (Grow.mut aO) (rel1.mut q rfl rfl e1 aO ⟨a, _, rfl, aO, upd_same, ?_⟩)
      exact Reps.upd (List.mem_append_left _ aO) ((Reps.ex rel.jL ee r).app r2)
    · rw [if_neg hl] at out1
      exact out1.elim
/-- x[k] = .., x an own list -/
def gIxL (i : Nat) (mk : Env → M D) : D → Env → M Env := fun d ρ => match ρ[i]? with
  | some (.own ds) => bnd (nox (mk ρ)) fun k => match k with
    | .int n => match ixN ds.length n with
      | some q => ret (ρ.set i (.own (ds.set q d)))
      | none => stuck
    | _ => stuck
  | _ => stuck
theorem nox_rd {mk : Env → M D} {P : VK} {Q : St → Hp → Prop} {k : D → M Env} (rel : Rel c B O ρ j σ H) (out : OutG c B O H Q (bnd (nox (mk ρ)) k j)) {m' : Md}
    (hP : ∀ d j1 v H1, Rel c B O ρ j1 σ H1 → Ex c H H1 → RepM m' c (O ++ B) H H1 d v → OutG c B O H1 Q (k d j1) → P v H1) : rd m' c B W mk σ H P := by
  refine ⟨O, ρ, j, rel, ?_⟩
  unfold bnd nox at out
  cases q : mk ρ j with
  | ok d j1 =>
    rw [q] at out
    exact fun v H1 e hj rp => hP d j1 v H1 (rel.ex e hj) e rp (OutG.grow (Grow.ex e) out)
  | exc k g j' => rw [q] at out; exact out.elim
  | stk => rw [q] at out; exact out.elim
theorem mg_ixL {i : Nat} {x : Str} {p : Pos} {k : Expr} {mk : Env → M D} (hk : ME X .look c B W k mk) (hi : X.N[i]? = some x := by rfl) (hv : Vis X.env.scope x := by first | exact Or.inl rfl | exact Or.inr (Or.inl rfl) | exact Or.inr (Or.inr rfl))
    (hd : (x == ("__debug__" : Str)) = false := by decide) (hcd : (x == ("__classdict__" : Str)) = false := by decide)
    (ha : ∀ v, assign (.Subscript (.Name x p) k pos) X.env v = (do
      let ov ← holding [v] (eval (.Name x p) X.env)
      let iv ← holding [v, ov] (eval k X.env)
      standAt pos
      holding [v, ov, iv] (setItem ov iv v)
      release [v, ov, iv] []) := by intro _; rfl) : MG X c B (.Subscript (.Name x p) k pos) (gIxL i mk) :=
  pg_mono (pg_sub (pe_var hi hv hd hcd) hk set_list ha) fun v σ H Q ⟨O, ρ, j, d, rel, rp, out⟩ => by
    unfold gIxL at out
    cases q : ρ[i]? with
    | none => rw [q] at out; exact out.elim
    | some s =>
      rw [q] at out
      cases s <;> first | exact out.elim | skip
      rename_i ds
      obtain ⟨a, vs, e1, aO, t, r⟩ := rel.own q
      refine ⟨.ref a, e1, nox_rd (m' := .look) (k := fun k => match k with
        | .int n => match ixN ds.length n with
          | some q => ret (ρ.set i (.own (ds.set q d)))
          | none => stuck
        | _ => stuck) rel out fun kd j1 w H1 rel1 ee kp out1 => ?_⟩
      cases kd <;> first | exact out1.elim | skip
      rename_i n
      cases kp.int
      dsimp only at out1
      cases z : ixN ds.length n with
      | none => rw [z] at out1; exact out1.elim
      | some y =>
        rw [z] at out1
        refine ⟨a, vs, n, y, rfl, rfl, ee.at (rel.oJ aO) t, by rw [← r.len]; exact z, ?_⟩
        refine out1 O σ _ (Grow.mut aO) (rel1.mut q rfl rfl e1 aO ⟨a, _, rfl, aO, upd_same, ?_⟩)
        exact Reps.upd (List.mem_append_left _ aO) (Reps.set (Rep.ex rel.jL ee rp) _ (Reps.ex rel.jL ee r))
end
end Mir
set_option Elab.async false
set_option linter.all false
set_option maxRecDepth 100000
set_option maxHeartbeats 4000000
/-! Mir5: several targets at once, loops, comprehensions by mirrors. -/
namespace Mir
open PySem L2
section
variable {X : Cx} {m : Md} {c : RC} {B O O' L : List Addr} {W : WX} {e a b : Expr} {me ma mb : Env → M D} {pos : Pos} {σ : St} {H H' : Hp} {Q : VK} {ρ : Env} {j : List Int} {D' : Ends} {st : Stmt} {sts : List Stmt}
/-! ### a, b = e, f -/
def setAll : List Nat → List Sl → Env → Env
  | i :: is, s :: ss, ρ => (setAll is ss ρ).set i s
  | _, _, ρ => ρ
def setAllV : List Nat → List V → St → St
  | i :: is, v :: vs, σ => (setAllV is vs σ).set i (some v)
  | _, _, σ => σ
def slsOf : List Bool → List D → List Sl
  | o :: fl, d :: ds => slOf o d :: slsOf fl ds
  | _, _ => []
def OutF (c : RC) (B : List Addr) (W : WX) (is : List Nat) (fl : List Bool) (O : List Addr) (ρ : Env) (σ : St) (H : Hp) (Q : List V → Hp → Prop) : Res (List D) → Prop
  | .ok ds j => ∀ vs H' O', Grow c O H O' H' → vs.length = is.length → Rel c B O' (setAll is (slsOf fl ds) ρ) j (setAllV is vs σ) H' → Q vs H'
  | .exc k g j => ∀ (dx : Addr) (H' : Hp) (v : V), Ex c H H' → JarAt c H' j → Rep c (O ++ B) H' g v → H' dx = some (.xd [(c.att k, v)]) → W (.ref (c.cls k)) (some dx) σ H'
  | .stk => False
def rdF (c : RC) (B : List Addr) (W : WX) (is : List Nat) (fl : List Bool) (ml : Env → M (List D)) : TA := fun σ H Q => ∃ O ρ j, Rel c B O ρ j σ H ∧ OutF c B W is fl O ρ σ H Q (ml ρ j)
abbrev MF (X : Cx) (c : RC) (W : WX) (es : List Expr) (is : List Nat) (fl : List Bool) (ml : Env → M (List D)) : Prop := ∀ B, PA X es (rdF c B W is fl ml)
theorem mf_nil : MF X c W [] [] [] mNil := fun B => ⟨fun pos pins s σ H Q I ⟨O, ρ, j, rel, out⟩ => pa_nil.run pos pins s σ H Q I (out [] H O Grow.refl rfl rel)⟩
/-- a new object is lent to the outside -/
theorem Rel.lend {H0 : Hp} {j0 : List Int} (rel0 : Rel c B O ρ j0 σ H0) (e1 : Ex c H0 H) (rel : Rel c B O ρ j σ H) {p : Addr} (h0 : H0 p = none) (hp : H p ≠ none) (nJ : p ∉ c.Js) : Rel c (p :: B) O ρ j σ H where
  len := rel.len
  sl := fun k t w h1 h2 => by
    have q := ((rel0.sl k t w h1 h2).add h0)
    have q := SlR.ex (InJ.cons rel.jL) (fun x hx => (List.mem_cons.mp hx).elim (fun z => z ▸ nJ) rel.oJ) e1 q
    have sub : ∀ x ∈ O ++ p :: B, x ∈ p :: (O ++ B) := fun x hx => by
      rcases List.mem_append.mp hx with z | z
      · exact List.mem_cons_of_mem _ (List.mem_append_left _ z)
      · rcases List.mem_cons.mp z with z | z
        · rw [z]; exact List.mem_cons_self
        · exact List.mem_cons_of_mem _ (List.mem_append_right _ z)
    have old := rel0.sl k t w h1 h2
    have ne : ∀ x o, H0 x = some o → x ≠ p := fun x o h z => by rw [z, h0] at h; cases h
    cases t with
    | no => trivial
    | val d => obtain ⟨v, e1, r⟩ := q; exact ⟨v, e1, Rep.sub sub d v r⟩
    | own ds => obtain ⟨a, vs, e1, mm, t, r⟩ := q; obtain ⟨a', vs', e1', mm', t', r'⟩ := old; rw [e1] at e1'; cases e1'; exact ⟨a, vs, e1, mm', t, Reps.sub sub ds vs r⟩
    | ownD ks ds => obtain ⟨a, vs, e1, mm, t, l, r⟩ := q; obtain ⟨a', vs', e1', mm', t', l', r'⟩ := old; rw [e1] at e1'; cases e1'; exact ⟨a, vs, e1, mm', t, l, Reps.sub sub ds vs r⟩
    | ownI k ns ds => obtain ⟨a, dx, vs, e1, mm, t, l, r⟩ := q; obtain ⟨a', dx', vs', e1', mm', t', l', r'⟩ := old; rw [e1] at e1'; cases e1'; exact ⟨a, dx, vs, e1, mm', t, l, Reps.sub sub ds vs r⟩
  inj := rel.inj
  jar := rel.jar
  jB := InJ.cons rel.jB
  dom := fun x hx => by
    rcases List.mem_append.mp hx with z | z
    · exact rel.dom x (List.mem_append_left _ z)
    · rcases List.mem_cons.mp z with z | z
      · rw [z]; exact hp
      · exact rel.dom x (List.mem_append_right _ z)
  disj := fun x hx z => by
    rcases List.mem_cons.mp z with z | z
    · have h := rel0.dom x (List.mem_append_left _ hx)
      rw [z] at h; exact h h0
    · exact rel.disj x hx z
/-- .. and taken back, as a slot's own -/
theorem Rel.back {p : Addr} {s : Sl} {i : Nat} (rel : Rel c (p :: B) O ρ j σ H) (nB : p ∉ B) (jB : InJ c B) (hs : SlR c ((p :: O) ++ B) (p :: O) H s (some (.ref p))) : Rel c B (p :: O) (ρ.set i s) j (σ.set i (some (.ref p))) H := by
  have sub : ∀ x ∈ (p :: O) ++ B, x ∈ O ++ p :: B := fun x hx => by
    rcases List.mem_append.mp hx with z | z
    · rcases List.mem_cons.mp z with z | z
      · rw [z]; exact List.mem_append_right _ List.mem_cons_self
      · exact List.mem_append_left _ z
    · exact List.mem_append_right _ (List.mem_cons_of_mem _ z)
  have nO : p ∉ O := fun h => rel.disj p h List.mem_cons_self
  have old : ∀ (k : Nat) (t : Sl) (o : Option V), ρ[k]? = some t → σ[k]? = some o → SlR c ((p :: O) ++ B) (p :: O) H t o := fun k t o h1 h2 => by
    have q := rel.sl k t o h1 h2
    cases t with
    | no => trivial
    | val d => obtain ⟨v, e1, r⟩ := q; exact ⟨v, e1, Rep.sub sub d v r⟩
    | own ds => obtain ⟨a, vs, e1, mm, t, r⟩ := q; exact ⟨a, vs, e1, List.mem_cons_of_mem _ mm, t, Reps.sub sub ds vs r⟩
    | ownD ks ds => obtain ⟨a, vs, e1, mm, t, l, r⟩ := q; exact ⟨a, vs, e1, List.mem_cons_of_mem _ mm, t, l, Reps.sub sub ds vs r⟩
    | ownI k ns ds => obtain ⟨a, dx, vs, e1, mm, t, l, r⟩ := q; exact ⟨a, dx, vs, e1, List.mem_cons_of_mem _ mm, t, l, Reps.sub sub ds vs r⟩
  have nk : ∀ (k : Nat) (t : Sl), ρ[k]? = some t → t.isOwn = true → σ[k]? ≠ some (some (.ref p)) := fun k t h1 ho h2 => by
    have q := rel.sl k t _ h1 h2
    cases t with
    | no => cases ho
    | val _ => cases ho
    | own ds => obtain ⟨a, vs, e1, mm, _⟩ := q; cases e1; exact nO mm
    | ownD ks ds => obtain ⟨a, vs, e1, mm, _⟩ := q; cases e1; exact nO mm
    | ownI k ns ds => obtain ⟨a, dx, vs, e1, mm, _⟩ := q; cases e1; exact nO mm
  refine ⟨by rw [List.length_set, List.length_set]; exact rel.len, fun k t w q1 q2 => ?_, fun x y t u z q1 q2 o1 o2 g1 g2 => ?_, rel.jar, jB, fun x hx => rel.dom x (sub x hx), fun x hx z => ?_⟩
  · by_cases hk : i = k
    · subst hk
      have hi : i < ρ.length := by
        have := (List.getElem?_eq_some_iff.mp q1).1
        simpa using this
      rw [List.getElem?_set_self hi] at q1
      rw [List.getElem?_set_self (by rw [rel.len]; exact hi)] at q2
      cases q1; cases q2
      exact hs
    · rw [List.getElem?_set_ne hk] at q1 q2
      exact old k t w q1 q2
  · have self : ∀ {k : Nat} {w : V}, i = k → (σ.set i (some (.ref p)))[k]? = some (some w) → w = .ref p := fun {k w} e g => by
      subst e
      have hi : i < σ.length := by
        have := (List.getElem?_eq_some_iff.mp g).1
        simpa using this
      rw [List.getElem?_set_self hi] at g
      cases g; rfl
    by_cases e1 : i = x
    · by_cases e2 : i = y
      · exact e1.symm.trans e2
      · have z1 := self e1 g1
        cases z1
        rw [List.getElem?_set_ne e2] at q2 g2
        exact absurd g2 (nk y u q2 o2)
    · by_cases e2 : i = y
      · have z1 := self e2 g2
        cases z1
        rw [List.getElem?_set_ne e1] at q1 g1
        exact absurd g1 (nk x t q1 o1)
      · rw [List.getElem?_set_ne e1] at q1 g1
        rw [List.getElem?_set_ne e2] at q2 g2
        exact rel.inj x y t u z q1 q2 o1 o2 g1 g2
  · rcases List.mem_cons.mp hx with w | w
    · rw [w] at z; exact nB z
    · exact rel.disj x w (List.mem_cons_of_mem _ z)
theorem mf_cons {es : List Expr} {i : Nat} {is : List Nat} {o : Bool} {fl : List Bool} {ml : Env → M (List D)} (he : ∀ B, ME X (mdOf o) c B W e me) (hs : MF X c W es is fl ml)
    (h : starEach (e :: es) X.env = (false, eval e X.env) :: starEach es X.env := by rfl) : MF X c W (e :: es) (i :: is) (o :: fl) (mCons me ml) := fun B => ⟨fun pos pins s σ H Q I ⟨O, ρ, j, rel, out⟩ => by
  unfold mCons at out
  -- what the rest makes of a value that is kept, of a new one
  have exc : ∀ {r : Res (List D)}, OutF c B W (i :: is) (o :: fl) O ρ σ H Q r → True := fun _ => trivial
  unfold bnd at out
  cases q1 : me ρ j with
  | stk => rw [q1] at out; exact out.elim
  | exc k g j1 =>
    rw [q1] at out
    refine (pa_cons (he B) (hs B) h).run pos pins s σ H Q I ⟨O, ρ, j, rel, ?_⟩
    rw [q1]
    exact out
  | ok d j1 =>
    rw [q1] at out
    dsimp only at out
    have plain : ∀ (hk : slOf o d = .val d), (∀ {H1 : Hp} {v : V}, RepM (mdOf o) c (O ++ B) H H1 d v → Rep c (O ++ B) H1 d v) → wpAny (model X.prog X.w) X.A (spliced (backTo pos (starEach (e :: es) X.env))) (AP X pins σ Q) X.xe s := fun hk kp => by
      refine (pa_cons (he B) (hs B) h).run pos pins s σ H Q I ⟨O, ρ, j, rel, ?_⟩
      rw [q1]
      intro v H1 e1 hj1 rp1
      have rel1 := rel.ex e1 hj1
      refine ⟨O, ρ, j1, rel1, ?_⟩
      cases q2 : ml ρ j1 with
      | stk => rw [q2] at out; exact out.elim
      | exc k g j2 =>
        rw [q2] at out
        exact fun dx H2 w e2 hj2 rw2 hd => out dx H2 w (e1.trans e2) hj2 rw2 hd
      | ok ds j2 =>
        rw [q2] at out
        intro vs H2 O2 g2 hl rel2
        refine out (v :: vs) H2 O2 ((Grow.ex e1).trans g2 rel2.jO) (by simp [hl]) ?_
        show Rel c B O2 ((setAll is (slsOf fl ds) ρ).set i (slOf o d)) j2 ((setAllV is vs σ).set i (some v)) H2
        rw [hk]
        exact rel2.setVal (Rep.grow g2 rel.jB d v (kp rp1))
    have own : ∀ (sl : Sl), slOf o d = sl → (∀ {H1 : Hp} {v : V}, RepM (mdOf o) c (O ++ B) H H1 d v → ∃ p, v = .ref p ∧ p ∉ O ++ B ∧ H p = none ∧ H1 p ≠ none ∧
        ∀ O2 H2, Grow c O H1 O2 H2 → InJ c B → p ∉ O2 → H2 p = H1 p → SlR c ((p :: O2) ++ B) (p :: O2) H2 sl (some (.ref p))) →
        wpAny (model X.prog X.w) X.A (spliced (backTo pos (starEach (e :: es) X.env))) (AP X pins σ Q) X.xe s := fun sl hk kp => by
      rw [h]
      show wpAny _ _ (spliced ((false, eval e X.env) :: backTo pos (starEach es X.env))) _ _ s
      refine Calls.spliced_cons (thn ((he B).run pins s σ H _ I ⟨O, ρ, j, rel, ?_⟩) fun u s1 (hu : EP X pins σ (fun v H1 => ∃ e1 : Ex c H H1, JarAt c H1 j1 ∧ RepM (mdOf o) c (O ++ B) H H1 d v) u s1) => ?_)
      · rw [q1]
        exact fun v H1 e1 hj1 rp1 => ⟨e1, hj1, rp1⟩
      obtain ⟨v, H1, I1, r1, e1, hj1, rp1⟩ := hu
      obtain ⟨p, rfl, np, h0, hp, back⟩ := kp rp1
      have nJ : p ∉ c.Js := rel.jL.ne np
      have rel1 := Rel.lend rel e1 (rel.ex e1 hj1) h0 hp nJ
      refine thn ((hs (p :: B)).run pos pins s1 σ H1 (fun vs H2 => Q (.ref p :: vs) H2) I1 ⟨O, ρ, j1, rel1, ?_⟩) fun us s2 ⟨vs, H2, I2, r2, q⟩ => ⟨.ref p :: vs, H2, I2, .cons r1 r2, q⟩
      cases q2 : ml ρ j1 with
      | stk => rw [q2] at out; exact out.elim
      | exc k g j2 =>
        rw [q2] at out
        refine fun dx H2 w e2 hj2 rw2 hd => out dx H2 w (e1.trans e2) hj2 (Rep.sub (fun x hx => ?_) _ _ rw2) hd
        exact (List.mem_append.mp hx).elim (fun z => List.mem_append_left _ z) fun z => List.mem_append_right _ (List.mem_cons_of_mem _ z)
      | ok ds j2 =>
        rw [q2] at out
        intro vs H2 O2 g2 hl rel2
        have pO2 : p ∉ O2 := fun z => rel2.disj p z List.mem_cons_self
        have pO : p ∉ O := fun z => np (List.mem_append_left _ z)
        have st : H2 p = H1 p := by
          cases z : H1 p with
          | none => exact absurd z hp
          | some w => exact g2.keep p w pO nJ z
        refine out (.ref p :: vs) H2 (p :: O2) ⟨fun x w n z hx => g2.keep x w n z (e1.at z hx), fun x hx => ?_, fun x z hx => g2.dom x z ((Grow.ex (O := O) e1).dom x z hx)⟩ (by simp [hl]) ?_
        · rcases List.mem_cons.mp hx with z | z
          · exact .inr (z ▸ h0)
          · rcases g2.own x z with z | z
            · exact .inl z
            · refine .inr (e1.free rel.jar z ⟨_, hj1⟩)
        · show Rel c B (p :: O2) ((setAll is (slsOf fl ds) ρ).set i (slOf o d)) j2 ((setAllV is vs σ).set i (some (.ref p))) H2
          rw [hk]
          exact Rel.back rel2 (fun z => np (List.mem_append_right _ z)) rel.jB (back O2 H2 g2 rel.jB pO2 st)
    cases o with
    | false => exact plain rfl fun r => r
    | true =>
      have grow' : ∀ {p : Addr} {H1 H2 : Hp} {O2 : List Addr} {ds : List D} {vs : List V}, Grow c O H1 O2 H2 → InJ c B → p ∉ O2 → H1 p ≠ none → Reps c (p :: (O ++ B)) H1 ds vs → Reps c ((p :: O2) ++ B) H2 ds vs := fun {p H1 H2 O2 ds vs} g jB np hp r => by
        have r' : Reps c (O ++ (p :: B)) H1 ds vs := Reps.sub (fun x hx => by
          rcases List.mem_append.mp hx with z | z
          · exact List.mem_cons_of_mem _ (List.mem_append_left _ z)
          · rcases List.mem_cons.mp z with z | z
            · rw [z]; exact List.mem_cons_self
            · exact List.mem_cons_of_mem _ (List.mem_append_right _ z)) _ _ r
        have r2 := Reps.grow (B := p :: B) g (InJ.cons jB) ds vs r'
        refine Reps.sub (fun x hx => ?_) _ _ r2
        rcases List.mem_append.mp hx with z | z
        · rcases List.mem_cons.mp z with z | z
          · rw [z]; exact List.mem_append_right _ List.mem_cons_self
          · exact List.mem_append_left _ z
        · exact List.mem_append_right _ (List.mem_cons_of_mem _ z)
      cases d with
      | lst ds =>
        refine own (.own ds) rfl fun {H1 v} rp => ?_
        obtain ⟨a, vs, rfl, na, h0, t, r⟩ := rp
        have ha : H1 a ≠ none := by rw [t]; exact fun z => nomatch z
        exact ⟨a, rfl, na, h0, ha, fun O2 H2 g jB np st => ⟨a, vs, rfl, List.mem_cons_self, st.trans t, grow' g jB np ha r⟩⟩
      | dK ks ds =>
        refine own (.ownD ks ds) rfl fun {H1 v} rp => ?_
        obtain ⟨a, vs, rfl, na, h0, t, l, r⟩ := rp
        have ha : H1 a ≠ none := by rw [t]; exact fun z => nomatch z
        exact ⟨a, rfl, na, h0, ha, fun O2 H2 g jB np st => ⟨a, vs, rfl, List.mem_cons_self, st.trans t, l, grow' g jB np ha r⟩⟩
      | _ => exact plain rfl fun r => RepF.keep (H0 := H) r⟩
end
end Mir
set_option Elab.async false
set_option linter.all false
set_option maxRecDepth 100000
set_option maxHeartbeats 4000000
/-! Mir6: several targets, what a for walks, for, while by mirrors. -/
namespace Mir
open PySem L2
section
variable {X : Cx} {m : Md} {c : RC} {B O O' L : List Addr} {W : WX} {e a b : Expr} {me ma mb : Env → M D} {pos : Pos} {σ : St} {H H' : Hp} {Q : VK} {ρ : Env} {j : List Int} {D' : Ends} {st : Stmt} {sts : List Stmt}
def mPar (is : List Nat) (fl : List Bool) (ml : Env → M (List D)) : Env → M Fl := fun ρ => bnd (ml ρ) fun ds => ret (.nx (setAll is (slsOf fl ds) ρ))
theorem rdF_bndS {is : List Nat} {fl : List Bool} {ml : Env → M (List D)} {P : List V → Hp → Prop} (rel : Rel c B O ρ j σ H) (out : OutS c B W D' O H (bnd (ml ρ) (fun ds => ret (.nx (setAll is (slsOf fl ds) ρ))) j))
    (hP : ∀ ρ' j' vs H1 O', Grow c O H O' H1 → vs.length = is.length → Rel c B O' ρ' j' (setAllV is vs σ) H1 → OutS c B W D' O H (ret (.nx ρ') j') → P vs H1) : rdF c B W is fl ml σ H P := by
  refine ⟨O, ρ, j, rel, ?_⟩
  unfold bnd at out
  cases q : ml ρ j with
  | stk => rw [q] at out; exact out.elim
  | exc k g j' =>
    rw [q] at out
    exact fun dx H' v e hj rp hd => out O ρ σ H' dx v (Grow.ex e) (rel.ex e hj) rp hd
  | ok ds j1 =>
    rw [q] at out
    exact fun vs H1 O1 g hl r => hP _ j1 vs H1 O1 g hl r out
theorem set_swap {α : Type} {l : List α} {i k : Nat} {x y : α} (h : i ≠ k) : (l.set k y).set i x = (l.set i x).set k y := List.set_comm y x (Ne.symm h)
theorem ms_par {i k : Nat} {x y : Str} {px py pt : Pos} {kt k2 : Nat} {pt2 : Pos} {fl : List Bool} {ml : Env → M (List D)} (hc : X.calm = true) (hN : X.N.Nodup) (ha : MF X c W [a, b] [i, k] fl ml) (hi : X.N[i]? = some x := by rfl) (hk : X.N[k]? = some y := by rfl) (hik : i ≠ k := by decide)
    (hx : X.env.scope.names.lookup x = some .local := by rfl) (hy : X.env.scope.names.lookup y = some .local := by rfl)
    (hsw : swappedStores [.Tuple [.Name x px, .Name y py] kt pt] (.Tuple [a, b] k2 pt2) X.env = pure (some [x, y]) := by rfl)
    (hs : swapsWithSole [.Tuple [.Name x px, .Name y py] kt pt] (.Tuple [a, b] k2 pt2) pos.line X.env = pure false := by rfl) :
    MS X c B W (.Assign [.Tuple [.Name x px, .Name y py] kt pt] (.Tuple [a, b] k2 pt2) pos) (mPar [i, k] fl ml) :=
  ms_mono (ps_par hc hN hi hk hik hx hy (ha B) hsw hs) fun D σ H ⟨O, ρ, j, rel, out⟩ => rdF_bndS rel out fun ρ' j' vs H1 O' g hl r out1 => by
    match vs, hl, r with
    | [u, v], _, r => exact ⟨u, v, rfl, out1 O' _ H1 g (by rw [← set_swap hik]; exact r)⟩
theorem Rel.new {p : Addr} {o : HO} (r : Rel c B O ρ j σ H) (hp : H p = none) : Rel c B O ρ j σ (upd H p o) := r.ex (ExS.new hp) (r.jar.new hp)
/-- the same where a tuple is made: a name is captured, or the line is not one -/
theorem ms_tup2 {i k : Nat} {x y : Str} {px py pt : Pos} {kt k2 : Nat} {pt2 : Pos} {fl : List Bool} {ml : Env → M (List D)} (hc : X.calm = true) (hN : X.N.Nodup) (ha : MF X c W [a, b] [i, k] fl ml) (hi : X.N[i]? = some x := by rfl) (hk : X.N[k]? = some y := by rfl) (hik : i ≠ k := by decide)
    (hx : Loc X.env.scope x := by first | exact Or.inl rfl | exact Or.inr rfl) (hy : Loc X.env.scope y := by first | exact Or.inl rfl | exact Or.inr rfl)
    (hfx : X.fn x = true ∨ X.env.scope.names.lookup x = some .local := by first | exact .inl rfl | exact .inr rfl) (hfy : X.fn y = true ∨ X.env.scope.names.lookup y = some .local := by first | exact .inl rfl | exact .inr rfl)
    (hn : (assignEach [Expr.Name x px, .Name y py] X.env).length = 2 := by rfl) (hst : (assignEach [Expr.Name x px, .Name y py] X.env).findIdx? (·.1) = none := by rfl)
    (hs1 : (assignEach [Expr.Name x px, .Name y py] X.env).map (·.2) = assign (.Name x px) X.env :: (assignEach [Expr.Name y py] X.env).map (·.2) := by rfl)
    (hs2 : (assignEach [Expr.Name y py] X.env).map (·.2) = assign (.Name y py) X.env :: (assignEach [] X.env).map (·.2) := by rfl)
    (hsw : swappedStores [.Tuple [.Name x px, .Name y py] kt pt] (.Tuple [a, b] k2 pt2) X.env = pure none := by rfl)
    (hs : swapsWithSole [.Tuple [.Name x px, .Name y py] kt pt] (.Tuple [a, b] k2 pt2) pos.line X.env = pure false := by rfl)
    (h1 : (assignEach [Expr.Tuple [.Name x px, .Name y py] kt pt] X.env).map (·.2) = [assign (.Tuple [.Name x px, .Name y py] kt pt) X.env] := by rfl) :
    MS X c B W (.Assign [.Tuple [.Name x px, .Name y py] kt pt] (.Tuple [a, b] k2 pt2) pos) (mPar [i, k] fl ml) :=
  ms_mono (ps_asg (pe_tupF (ha B)) (pg_tup hc (pgs_cons (pg_name hN hi hx hfx) (pgs_cons (pg_name hN hk hy hfy) pgs_nil hs2) hs1) hn hst) hs hsw h1) fun D σ H ⟨O, ρ, j, rel, out⟩ => rdF_bndS rel out fun ρ' j' vs H1 O' g hl r out1 => by
    match vs, hl, r with
    | [u, v], _, r =>
      refine ⟨lim_le (by show 2 ≤ LIM; decide), fun p o ho hp => ⟨p, [u, v], rfl, .inl (.inr ⟨o, upd_same⟩), rfl, u, [v], rfl, v, [], rfl, rfl, ?_⟩⟩
      have r2 := Rel.new (o := .frz o (.tup [u, v])) r hp
      exact out1 O' _ _ (g.trans (Grow.ex (ExS.new hp)) r.jO) (by rw [← set_swap hik]; exact r2)
theorem ms_tup3 {i k l : Nat} {x y z : Str} {d : Expr} {px py pz pt : Pos} {kt k2 : Nat} {pt2 : Pos} {fl : List Bool} {ml : Env → M (List D)} (hc : X.calm = true) (hN : X.N.Nodup) (ha : MF X c W [a, b, d] [i, k, l] fl ml) (hi : X.N[i]? = some x := by rfl) (hk : X.N[k]? = some y := by rfl) (hl : X.N[l]? = some z := by rfl) (hik : i ≠ k := by decide) (hil : i ≠ l := by decide) (hkl : k ≠ l := by decide)
    (hx : Loc X.env.scope x := by first | exact Or.inl rfl | exact Or.inr rfl) (hy : Loc X.env.scope y := by first | exact Or.inl rfl | exact Or.inr rfl) (hz : Loc X.env.scope z := by first | exact Or.inl rfl | exact Or.inr rfl)
    (hfx : X.fn x = true ∨ X.env.scope.names.lookup x = some .local := by first | exact .inl rfl | exact .inr rfl) (hfy : X.fn y = true ∨ X.env.scope.names.lookup y = some .local := by first | exact .inl rfl | exact .inr rfl) (hfz : X.fn z = true ∨ X.env.scope.names.lookup z = some .local := by first | exact .inl rfl | exact .inr rfl)
    (hn : (assignEach [Expr.Name x px, .Name y py, .Name z pz] X.env).length = 3 := by rfl) (hst : (assignEach [Expr.Name x px, .Name y py, .Name z pz] X.env).findIdx? (·.1) = none := by rfl)
    (hs1 : (assignEach [Expr.Name x px, .Name y py, .Name z pz] X.env).map (·.2) = assign (.Name x px) X.env :: (assignEach [Expr.Name y py, .Name z pz] X.env).map (·.2) := by rfl)
    (hs2 : (assignEach [Expr.Name y py, .Name z pz] X.env).map (·.2) = assign (.Name y py) X.env :: (assignEach [Expr.Name z pz] X.env).map (·.2) := by rfl)
    (hs3 : (assignEach [Expr.Name z pz] X.env).map (·.2) = assign (.Name z pz) X.env :: (assignEach [] X.env).map (·.2) := by rfl)
    (hsw : swappedStores [.Tuple [.Name x px, .Name y py, .Name z pz] kt pt] (.Tuple [a, b, d] k2 pt2) X.env = pure none := by rfl)
    (hs : swapsWithSole [.Tuple [.Name x px, .Name y py, .Name z pz] kt pt] (.Tuple [a, b, d] k2 pt2) pos.line X.env = pure false := by rfl)
    (h1 : (assignEach [Expr.Tuple [.Name x px, .Name y py, .Name z pz] kt pt] X.env).map (·.2) = [assign (.Tuple [.Name x px, .Name y py, .Name z pz] kt pt) X.env] := by rfl) :
    MS X c B W (.Assign [.Tuple [.Name x px, .Name y py, .Name z pz] kt pt] (.Tuple [a, b, d] k2 pt2) pos) (mPar [i, k, l] fl ml) :=
  ms_mono (ps_asg (pe_tupF (ha B)) (pg_tup hc (pgs_cons (pg_name hN hi hx hfx) (pgs_cons (pg_name hN hk hy hfy) (pgs_cons (pg_name hN hl hz hfz) pgs_nil hs3) hs2) hs1) hn hst) hs hsw h1) fun D σ H ⟨O, ρ, j, rel, out⟩ => rdF_bndS rel out fun ρ' j' vs H1 O' g hln r out1 => by
    match vs, hln, r with
    | [u, v, w], _, r =>
      refine ⟨lim_le (by show 3 ≤ LIM; decide), fun p o ho hp => ⟨p, [u, v, w], rfl, .inl (.inr ⟨o, upd_same⟩), rfl, u, [v, w], rfl, v, [w], rfl, w, [], rfl, rfl, ?_⟩⟩
      have r2 := Rel.new (o := .frz o (.tup [u, v, w])) r hp
      refine out1 O' _ _ (g.trans (Grow.ex (ExS.new hp)) r.jO) ?_
      have e : ((σ.set i (some u)).set k (some v)).set l (some w) = ((σ.set l (some w)).set k (some v)).set i (some u) := by
        rw [set_swap hik, set_swap hil, set_swap hkl]
      rw [e]
      exact r2
/-! ### what a for walks -/
def IterOk (c : RC) (B O : List Addr) (J : It) (ds : List D) (H : Hp) : Prop := ∀ (i : Nat) (O2 : List Addr) (H2 : Hp), Grow c O H O2 H2 → (∀ a ∈ O2 ++ B, H2 a ≠ none) → (∃ j, JarAt c H2 j) →
  (i < ds.length → J.go i H2) ∧ (∀ d x H3, ds[i]? = some d → J.yld i H2 x H3 → Ex c H2 H3 ∧ Rep c (O2 ++ B) H3 d x ∧ ∀ y ∈ c.Js, H3 y = H2 y) ∧ (i = ds.length → J.stop i H2)
def OutI (c : RC) (B O : List Addr) (W : WX) (σ : St) (H : Hp) (R : It → Hp → Prop) : Res (List D) → Prop
  | .ok ds j => ∀ J H', Ex c H H' → JarAt c H' j → IterOk c B O J ds H' → R J H'
  | .exc k g j => ∀ (dx : Addr) (H' : Hp) (v : V), Ex c H H' → JarAt c H' j → Rep c (O ++ B) H' g v → H' dx = some (.xd [(c.att k, v)]) → W (.ref (c.cls k)) (some dx) σ H'
  | .stk => False
def rdI (c : RC) (B : List Addr) (W : WX) (mi : Env → M (List D)) : TI := fun σ H R => ∃ O ρ j, Rel c B O ρ j σ H ∧ OutI c B O W σ H R (mi ρ j)
abbrev MI (X : Cx) (c : RC) (B : List Addr) (W : WX) (tg iter : Expr) (mi : Env → M (List D)) : Prop := PI X tg iter (rdI c B W mi)
theorem pi_mono {tg it : Expr} {t : TI} {mi : Env → M (List D)} (h : PI X tg it t) (hh : ∀ σ H R, rdI c B W mi σ H R → t σ H R) : MI X c B W tg it mi := ⟨fun pins s σ H R I hq => h.run pins s σ H R I (hh σ H R hq)⟩
/-- a list or a tuple -/
def iSeq (K : PySem.W.Frag) (te : TE) : TI := fun σ H R => te σ H fun x H1 => ∃ a, x = .ref a ∧ (((∃ xs, SqL K H1 a xs) ∧ R (Itl K a) H1) ∨ ((∃ xs, SqT K H1 a xs) ∧ R (Itt K a) H1))
theorem pi_seq {tg l : Expr} {te : TE} (hl : PE X l te) : PI X tg l (iSeq X.K te) := by
  refine ⟨fun pins s σ H R I h => thn (hl.run pins s σ H _ I h) fun v s1 ⟨x, H1, I1, r1, a, e, q⟩ => ?_⟩
  subst e
  cases r1
  have fp : ∀ b ∈ [s1.heap.objs.size], FpOk X pins H1 b := fun b hb => by
    rw [show b = s1.heap.objs.size from by simpa using hb]
    exact I1.fpOk (Nat.le_refl _) (I1.hok.fresh (Nat.le_refl _))
  rcases q with ⟨⟨xs, hq⟩, q⟩ | ⟨⟨xs, hq⟩, q⟩
  · obtain ⟨its, rv, p, _⟩ := I1.list hq
    exact wpAny_pyIter_list p.isList ⟨_, [s1.heap.objs.size], _, Itl X.K a, H1, rfl, I1.kept (t' := s1.toks) fun b o e => Heap.get?_push_of_some _ e, turn_list a _, ⟨_, Heap.get?_push_size _ rfl, rfl, rfl⟩, fp, q⟩
  · obtain ⟨its, rv, p, _⟩ := I1.tuple hq
    exact wpAny_pyIter_tuple (show s1.heap.IsTuple a its.toArray from p) ⟨_, [s1.heap.objs.size], _, Itt X.K a, H1, rfl, I1.kept (t' := s1.toks) fun b o e => Heap.get?_push_of_some _ e, turn_tuple a _, ⟨_, Heap.get?_push_size _ rfl, rfl, rfl⟩, fp, q⟩
theorem Reps.inj_get {ds : List D} {vs : List V} {i : Nat} {d : D} (r : Reps c L H ds vs) (h : ds[i]? = some d) {x : V} (hx : vs[i]? = some x) : Rep c L H d x := by
  obtain ⟨v, q, rp⟩ := r.get h
  rw [q] at hx; cases hx
  exact rp
theorem iter_list {K : PySem.W.Frag} {a : Addr} {ds : List D} {vs : List V} (jB : InJ c B) (n : a ∉ O ++ B) (t : H a = some (.lst vs)) (r : Reps c (O ++ B) H ds vs) : IterOk c B O (Itl K a) ds H := fun i O2 H2 g _ _ => by
  have t2 := (g.at jB n t).2
  have r2 := Reps.grow g jB ds vs r
  refine ⟨fun hi => ?_, fun d x H3 hd hy => ?_, fun hi => ?_⟩
  · have hv : i < vs.length := by rw [← r.len]; exact hi
    exact ⟨vs, vs[i], SqL.of t2, by simp [hv]⟩
  · obtain ⟨e, hx⟩ := hy
    subst e
    exact ⟨ExS.refl, Reps.inj_get r2 hd (hx vs (SqL.of t2)), fun _ _ => rfl⟩
  · exact ⟨vs, SqL.of t2, by rw [← r.len, hi]; exact Nat.le_refl _⟩
theorem iter_tup {a : Addr} {ds : List D} {vs : List V} (jB : InJ c B) (t : TupAt c (O ++ B) H a vs) (r : Reps c (O ++ B) H ds vs) : IterOk c B O (Itt c.K a) ds H := fun i O2 H2 g _ _ => by
  have t2 := (t.grow g jB).sq
  have r2 := Reps.grow g jB ds vs r
  refine ⟨fun hi => ?_, fun d x H3 hd hy => ?_, fun hi => ?_⟩
  · have hv : i < vs.length := by rw [← r.len]; exact hi
    exact ⟨vs, vs[i], t2, by simp [hv]⟩
  · obtain ⟨e, hx⟩ := hy
    subst e
    exact ⟨ExS.refl, Reps.inj_get r2 hd (hx vs t2), fun _ _ => rfl⟩
  · exact ⟨vs, t2, by rw [← r.len, hi]; exact Nat.le_refl _⟩
def dSeq : D → M (List D)
  | .lst ds => ret ds
  | .tup ds => ret ds
  | _ => stuck
theorem rd_bndI {m' : Md} {P : VK} {R : It → Hp → Prop} {k : D → M (List D)} (rel : Rel c B O ρ j σ H) (out : OutI c B O W σ H R (bnd (ma ρ) k j))
    (hP : ∀ d j1 v H1, Rel c B O ρ j1 σ H1 → Ex c H H1 → RepM m' c (O ++ B) H H1 d v → OutI c B O W σ H1 R (k d j1) → P v H1) : rd m' c B W ma σ H P := by
  refine ⟨O, ρ, j, rel, ?_⟩
  unfold bnd at out
  cases q : ma ρ j with
  | ok d j1 =>
    rw [q] at out
    refine fun v H1 e hj rp => hP d j1 v H1 (rel.ex e hj) e rp ?_
    dsimp only at out
    cases z : k d j1 with
    | ok ds j2 => rw [z] at out; exact fun J H2 e2 hj2 it => out J H2 (e.trans e2) hj2 it
    | exc k' g j2 => rw [z] at out; exact fun dx H2 w e2 hj2 rp2 hd => out dx H2 w (e.trans e2) hj2 rp2 hd
    | stk => rw [z] at out; exact out
  | exc k g j' => rw [q] at out; exact out
  | stk => rw [q] at out; exact out.elim
def mSeqI (me : Env → M D) : Env → M (List D) := fun ρ => bnd (me ρ) dSeq
theorem mi_seq {tg : Expr} (hK : X.K = c.K) (h : ME X .keep c B W e me) : MI X c B W tg e (mSeqI me) :=
  pi_mono (pi_seq h) fun σ H R ⟨O, ρ, j, rel, out⟩ => rd_bndI rel out fun d j1 v H1 rel1 e1 rp out1 => by
    cases d <;> first | exact out1.elim | skip
    · obtain ⟨a, vs, rfl, t, r⟩ := rp
      exact ⟨a, rfl, .inr ⟨⟨vs, hK ▸ t.sq⟩, out1 _ H1 ExS.refl rel1.jar (hK ▸ iter_tup rel1.jB t r)⟩⟩
    · obtain ⟨a, vs, rfl, n, t, r⟩ := rp
      exact ⟨a, rfl, .inl ⟨⟨vs, SqL.of t⟩, out1 _ H1 ExS.refl rel1.jar (iter_list rel1.jB n t r)⟩⟩
/-- lo, lo + 1, .. as data -/
def rangeD (lo : Int) (n : Nat) : List D := (List.range n).map fun k => .int (lo + (k : Nat))
theorem iter_range {lo : Int} {n : Nat} : IterOk c B O (Itr lo n) (rangeD lo n) H := fun i O2 H2 g _ _ => by
  have hl : (rangeD lo n).length = n := by simp [rangeD]
  refine ⟨fun hi => by rw [hl] at hi; exact hi, fun d x H3 hd hy => ?_, fun hi => by rw [hl] at hi; rw [hi]; exact Nat.le_refl _⟩
  obtain ⟨e, ex⟩ := hy
  subst e ex
  unfold rangeD at hd
  rw [List.getElem?_map] at hd
  by_cases q : i < n
  · rw [List.getElem?_range q] at hd
    cases hd
    exact ⟨ExS.refl, rfl, fun _ _ => rfl⟩
  · rw [List.getElem?_eq_none (by simpa using q)] at hd
    cases hd
theorem rdA_bndI {P : List V → Hp → Prop} {R : It → Hp → Prop} {ml : Env → M (List D)} {k : List D → M (List D)} (rel : Rel c B O ρ j σ H) (out : OutI c B O W σ H R (bnd (ml ρ) k j))
    (hP : ∀ ds j1 vs H1, Rel c B O ρ j1 σ H1 → Reps c (O ++ B) H1 ds vs → OutI c B O W σ H1 R (k ds j1) → P vs H1) : rdA c B W ml σ H P := by
  refine ⟨O, ρ, j, rel, ?_⟩
  unfold bnd at out
  cases q : ml ρ j with
  | ok d j1 =>
    rw [q] at out
    refine fun v H1 e hj rp => hP d j1 v H1 (rel.ex e hj) rp ?_
    dsimp only at out
    cases z : k d j1 with
    | ok ds j2 => rw [z] at out; exact fun J H2 e2 hj2 it => out J H2 (e.trans e2) hj2 it
    | exc k' g j2 => rw [z] at out; exact fun dx H2 w e2 hj2 rp2 hd => out dx H2 w (e.trans e2) hj2 rp2 hd
    | stk => rw [z] at out; exact out
  | exc k g j' => rw [q] at out; exact out
  | stk => rw [q] at out; exact out.elim
abbrev near (i : Int) : Prop := -(2 ^ 62) ≤ i ∧ i < 2 ^ 62
def dRng1 : D → M (List D)
  | .int n => need (near n) (ret (rangeD 0 n.toNat))
  | _ => stuck
def dRng2 : D → D → M (List D)
  | .int i, .int n => need (near i ∧ near n) (ret (rangeD i (n - i).toNat))
  | _, _ => stuck
def mRng1 (ma : Env → M D) : Env → M (List D) := fun ρ => bnd (ma ρ) dRng1
def mRng2 (ma mb : Env → M D) : Env → M (List D) := fun ρ => bnd (ma ρ) fun x => bnd (mb ρ) fun y => dRng2 x y
theorem need_outI {p : Prop} [Decidable p] {M' : M (List D)} {R : It → Hp → Prop} (h : OutI c B O W σ H R (need p M' j)) : p ∧ OutI c B O W σ H R (M' j) := by
  unfold need at h
  split at h
  · exact ⟨‹_›, h⟩
  · exact h.elim
theorem mi_range1 {tg : Expr} {p : Pos} (hm : X.mg "range" = none) (ha : ME X .look c B W a ma) (hg : Gl X "range" := by rfl) (h1 : starEach [a] X.env = (false, eval a X.env) :: starEach [] X.env := by rfl)
    (hs : starEach [a] X.env = [(false, eval a X.env)] := by rfl) : MI X c B W tg (.Call (.Name "range" p) [a] [] pos) (mRng1 ma) :=
  pi_mono (pi_range1 hg hm (pa_cons ha pa_nil h1) hs) fun σ H R ⟨O, ρ, j, rel, out⟩ => rd_bndI (m' := .look) rel out fun d j1 v H1 rel1 e1 rp out1 => by
    cases d <;> first | exact out1.elim | skip
    cases rp.int
    obtain ⟨⟨q1, q2⟩, o⟩ := need_outI out1
    exact ⟨_, rfl, q1, q2, o _ H1 ExS.refl rel1.jar iter_range⟩
theorem mi_range2 {tg : Expr} {p : Pos} (hm : X.mg "range" = none) (ha : ME X .look c B W a ma) (hb : ME X .look c B W b mb) (hg : Gl X "range" := by rfl) (h1 : starEach [a, b] X.env = (false, eval a X.env) :: starEach [b] X.env := by rfl)
    (h2 : starEach [b] X.env = (false, eval b X.env) :: starEach [] X.env := by rfl) (hs : starEach [a, b] X.env = [(false, eval a X.env), (false, eval b X.env)] := by rfl) (hs2 : starEach [b] X.env = [(false, eval b X.env)] := by rfl) :
    MI X c B W tg (.Call (.Name "range" p) [a, b] [] pos) (mRng2 ma mb) :=
  pi_mono (pi_range2 hg hm (pa_cons ha (pa_cons hb pa_nil h2) h1) hs hs2) fun σ H R ⟨O, ρ, j, rel, out⟩ => rd_bndI (m' := .look) rel out fun d j1 v H1 rel1 e1 rp out1 => rd_bndI (m' := .look) rel1 out1 fun d2 j2 v2 H2 rel2 e2 rp2 out2 => by
    cases d <;> cases d2 <;> first | exact out2.elim | skip
    cases rp.int; cases rp2.int
    obtain ⟨⟨⟨q1, q2⟩, q3, q4⟩, o⟩ := need_outI out2
    exact ⟨_, _, rfl, ⟨q1, q2, q3, q4⟩, o _ H2 ExS.refl rel2.jar iter_range⟩
/-! ### for -/
def mForL (mg : D → Env → M Env) (body : Env → M Fl) : List D → Env → M Fl
  | [], ρ => ret (.nx ρ)
  | d :: ds, ρ => bnd (nox (mg d ρ)) fun ρ1 => bnd (body ρ1) fun f => match f with
    | .nx ρ2 => mForL mg body ds ρ2
    | .ct ρ2 => mForL mg body ds ρ2
    | .bk ρ2 => ret (.nx ρ2)
    | .rt d => ret (.rt d)
    | .rtF d => ret (.rtF d)
def mFor (mi : Env → M (List D)) (mg : D → Env → M Env) (body : Env → M Fl) : Env → M Fl := fun ρ => bnd (mi ρ) fun ds => mForL mg body ds ρ
theorem for_core {tg : Expr} {g : TG} {mg : D → Env → M Env} {body : Env → M Fl} {J : It} {ds : List D} (it : IterOk c B O J ds H) (rel : Rel c B O ρ j σ H) (out : OutS c B W D' O H (mForL mg body ds ρ j)) :
    ∃ V : Nat → Nat → St → Hp → Prop, (∃ n, V 0 n σ H) ∧ ∀ i n σ H, V i n σ H → (J.stop i H ∧ D'.nx σ H) ∨ (J.go i H ∧ ∃ N : St → Hp → Prop, (∀ σ' H', N σ' H' → ∃ n', n' < n ∧ V (i + 1) n' σ' H') ∧
      ∀ x H', J.yld i H x H' → rdG c B mg x σ H' fun σ2 H2 => rdS c B W body { D' with nx := N, ct := N, bk := D'.nx } σ2 H2) := by
  refine ⟨fun i n σ2 H2 => n = ds.length - i ∧ i ≤ ds.length ∧ ∃ O2 ρ2 j2, Grow c O H O2 H2 ∧ Rel c B O2 ρ2 j2 σ2 H2 ∧ OutS c B W D' O2 H2 (mForL mg body (ds.drop i) ρ2 j2), ⟨ds.length, by simp, Nat.zero_le _, O, ρ, j, Grow.refl, rel, out⟩, ?_⟩
  rintro i n σ2 H2 ⟨rfl, hi, O2, ρ2, j2, g2, rel2, out2⟩
  obtain ⟨go, yl, stop⟩ := it i O2 H2 g2 rel2.dom ⟨_, rel2.jar⟩
  by_cases hlt : i < ds.length
  · rw [List.drop_eq_getElem_cons hlt] at out2
    refine .inr ⟨go hlt, fun σ3 H3 => ∃ O3 ρ3 j3, Grow c O H O3 H3 ∧ Rel c B O3 ρ3 j3 σ3 H3 ∧ OutS c B W D' O3 H3 (mForL mg body (ds.drop (i + 1)) ρ3 j3), fun σ3 H3 ⟨O3, ρ3, j3, g3, rel3, out3⟩ => ⟨ds.length - (i + 1), by omega, rfl, hlt, O3, ρ3, j3, g3, rel3, out3⟩, fun x H3 hy => ?_⟩
    obtain ⟨e3, rp3, hj⟩ := yl ds[i] x H3 (by simp [hlt]) hy
    have rel3 := rel2.ex e3 (rel2.jar.same hj)
    have out3 := OutS.grow (Grow.ex e3) out2
    have g3 := g2.trans (Grow.ex (O := O2) e3) rel2.jO
    refine ⟨O2, ρ2, j2, ds[i], rel3, rp3, ?_⟩
    have out3 : OutS c B W D' O2 H3 (bnd (nox (mg ds[i] ρ2)) (fun ρ1 => bnd (body ρ1) fun f => match f with
      | .nx ρ2 => mForL mg body (ds.drop (i + 1)) ρ2
      | .ct ρ2 => mForL mg body (ds.drop (i + 1)) ρ2
      | .bk ρ2 => ret (.nx ρ2)
      | .rt d => ret (.rt d)
      | .rtF d => ret (.rtF d)) j2) := out3
    unfold bnd nox at out3
    cases q : mg ds[i] ρ2 j2 with
    | stk => rw [q] at out3; exact out3.elim
    | exc k x j' => rw [q] at out3; exact out3.elim
    | ok ρ4 j4 =>
      rw [q] at out3
      intro O4 σ4 H4 g4 rel4
      have out4 := OutS.grow g4 out3
      refine ⟨O4, ρ4, j4, rel4, ?_⟩
      dsimp only at out4
      cases q2 : body ρ4 j4 with
      | stk => rw [q2] at out4; exact out4.elim
      | exc k x j' => rw [q2] at out4; exact fun O' ρ' σ' H' dx v gg rr rp hd => out4 O' ρ' σ' H' dx v gg rr rp hd
      | ok f j5 =>
        rw [q2] at out4
        cases f with
        | nx ρ5 => exact fun O5 σ5 H5 g5 rel5 => ⟨O5, ρ5, j5, (g3.trans g4 rel4.jO).trans g5 rel5.jO, rel5, OutS.grow g5 out4⟩
        | ct ρ5 => exact fun O5 σ5 H5 g5 rel5 => ⟨O5, ρ5, j5, (g3.trans g4 rel4.jO).trans g5 rel5.jO, rel5, OutS.grow g5 out4⟩
        | bk ρ5 => exact fun O5 σ5 H5 g5 rel5 => out4 O5 σ5 H5 g5 rel5
        | rt d => exact fun O5 ρ' σ5 H5 v g5 rel5 rp5 => out4 O5 ρ' σ5 H5 v g5 rel5 rp5
        | rtF d => exact fun O5 ρ' σ5 H5 v g5 rel5 rp5 => out4 O5 ρ' σ5 H5 v g5 rel5 rp5
  · have e : i = ds.length := by omega
    subst e
    rw [List.drop_length] at out2
    exact .inl ⟨stop rfl, out2 O2 σ2 H2 Grow.refl rel2⟩
theorem ms_for {tg iter : Expr} {mi : Env → M (List D)} {mg : D → Env → M Env} {body : List Stmt} {mb : Env → M Fl} (hp : PassesOwn (model X.prog X.w) X.A X.env X.xe) (hc : X.calm = true) (hi : MI X c B W tg iter mi) (hg : MG X c B tg mg) (hb : MSs X c B W body mb)
    (hs : ∀ x, foldedSetIterable iter X.env x = pure x := by intro _; rfl) : MS X c B W (.For tg iter body [] pos) (mFor mi mg mb) :=
  ms_mono (ps_for hp hc hi hg hb hs) fun D σ H ⟨O, ρ, j, rel, out⟩ => by
    refine ⟨O, ρ, j, rel, ?_⟩
    unfold mFor bnd at out
    cases q : mi ρ j with
    | stk => rw [q] at out; exact out.elim
    | exc k x j' => rw [q] at out; exact fun dx H' v e hj rp hd => out O ρ σ H' dx v (Grow.ex e) (rel.ex e hj) rp hd
    | ok ds j1 =>
      rw [q] at out
      exact fun J H1 e1 hj1 it => for_core (tg := tg) (g := rdG c B mg) it (rel.ex e1 hj1) (OutS.grow (Grow.ex e1) out)
end
end Mir
set_option Elab.async false
set_option linter.all false
set_option maxRecDepth 100000
set_option maxHeartbeats 4000000
/-! Mir7: comprehensions by mirrors. -/
namespace Mir
open PySem L2
section
variable {X : Cx} {m : Md} {c : RC} {B O O' L : List Addr} {W : WX} {e a b : Expr} {me ma mb : Env → M D} {pos : Pos} {σ : St} {H H' : Hp} {Q : VK} {ρ : Env} {j : List Int} {D' : Ends} {st : Stmt} {sts : List Stmt}
abbrev noW : WX := fun _ _ _ _ => False
/-- targets that are names alone -/
def NG (K : PySem.W.Frag) (g : TG) (mg : D → Env → M Env) (vs : List Nat) : Prop := ∀ (c : RC) (B O : List Addr) (ρ : Env) (j : List Int) (σ : St) (H : Hp) (d : D) (v : V) (ρ' : Env) (j' : List Int) (Q : St → Hp → Prop), K = c.K →
  Rel c B O ρ j σ H → Rep c (O ++ B) H d v → mg d ρ j = .ok ρ' j' → (∀ σ', j' = j → Rel c B O ρ' j σ' H → wipe σ' vs = wipe σ vs → Q σ' H) → g v σ H Q
def NGs (K : PySem.W.Frag) (g : TGs) (mg : List D → Env → M Env) (vs : List Nat) : Prop := ∀ (c : RC) (B O : List Addr) (ρ : Env) (j : List Int) (σ : St) (H : Hp) (ds : List D) (ws : List V) (ρ' : Env) (j' : List Int) (Q : St → Hp → Prop), K = c.K →
  Rel c B O ρ j σ H → Reps c (O ++ B) H ds ws → mg ds ρ j = .ok ρ' j' → (∀ σ', j' = j → Rel c B O ρ' j σ' H → wipe σ' vs = wipe σ vs → Q σ' H) → g ws σ H Q
theorem wipe_set : ∀ {vs : List Nat} {i : Nat} {σ : St} {w : Option V}, i ∈ vs → wipe (σ.set i w) vs = wipe σ vs
  | v :: vs, i, σ, w, h => by
    unfold wipe
    by_cases q : i ∈ vs
    · rw [wipe_set q]
    · have e : i = v := (List.mem_cons.mp h).resolve_right q
      subst e
      have out : ∀ (l : List Nat) (s : St), i ∉ l → wipe (s.set i w) l = (wipe s l).set i w := fun l => by
        induction l with
        | nil => intro s _; rfl
        | cons a l ih =>
          intro s n
          unfold wipe
          rw [ih s (fun z => n (List.mem_cons_of_mem _ z))]
          exact List.set_comm _ _ (fun z => n (z ▸ List.mem_cons_self))
      rw [out vs σ q, List.set_set]
theorem ng_name {K : PySem.W.Frag} {i : Nat} {vs : List Nat} (h : i ∈ vs) : NG K (gName i) (gN i) vs := fun c B O ρ j σ H d v ρ' j' Q hK rel rp e q => by
  have e : (Res.ok (ρ.set i (.val d)) j : Res Env) = .ok ρ' j' := e
  cases e
  exact q _ rfl (rel.setVal rp) (wipe_set h)
theorem ngs_nil {K : PySem.W.Frag} {vs : List Nat} : NGs K gNil gsNil vs := fun c B O ρ j σ H ds ws ρ' j' Q hK rel rp e q => by
  cases ds with
  | nil =>
    have e : (Res.ok ρ j : Res Env) = .ok ρ' j' := e
    cases e
    exact ⟨rp, q σ rfl rel rfl⟩
  | cons d ds => cases e
theorem ngs_cons {K : PySem.W.Frag} {g : TG} {gs : TGs} {mg : D → Env → M Env} {mgs : List D → Env → M Env} {vs : List Nat} (h1 : NG K g mg vs) (h2 : NGs K gs mgs vs) : NGs K (gCons g gs) (gsCons mg mgs) vs :=
  fun c B O ρ j σ H ds ws ρ' j' Q hK rel rp e q => by
    cases ds with
    | nil => cases e
    | cons d ds =>
      obtain ⟨v, r, rfl, q1, q2⟩ := rp
      have e' : bnd (mg d ρ) (fun ρ' => mgs ds ρ') j = .ok ρ' j' := e
      clear e
      unfold bnd at e'
      cases z : mg d ρ j with
      | stk => rw [z] at e'; cases e'
      | exc k x j1 => rw [z] at e'; cases e'
      | ok ρ1 j1 =>
        rw [z] at e'
        refine ⟨v, r, rfl, h1 c B O ρ j σ H d v ρ1 j1 _ hK rel q1 z fun σ1 e1 rel1 w1 => ?_⟩
        subst e1
        exact h2 c B O ρ1 _ σ1 H ds r ρ' j' Q hK rel1 q2 e' fun σ2 e2 rel2 w2 => q σ2 e2 rel2 (w2.trans w1)
theorem ng_tup {K : PySem.W.Frag} {n : Nat} {gs : TGs} {mgs : List D → Env → M Env} {vs : List Nat} (h : NGs K gs mgs vs) : NG K (gTup K n gs) (gTupD n mgs) vs := fun c B O ρ j σ H d v ρ' j' Q hK rel rp e q => by
  cases d <;> first | (cases e; done) | skip
  rename_i ds
  obtain ⟨a, ws, rfl, t, r⟩ := rp
  have e : (if ds.length = n then mgs ds ρ else stuck) j = .ok ρ' j' := e
  by_cases hl : ds.length = n
  · rw [if_pos hl] at e
    exact ⟨a, ws, rfl, hK ▸ t.sq, by rw [← r.len]; exact hl, h c B O ρ j σ H ds ws ρ' j' Q hK rel r e q⟩
  · rw [if_neg hl] at e; cases e
def wipeE (ρ : Env) : List Nat → Env
  | [] => ρ
  | v :: vs => (wipeE ρ vs).set v .no
theorem Rel.wipe (rel : Rel c B O ρ j σ H) : ∀ vs : List Nat, Rel c B O (wipeE ρ vs) j (L2.wipe σ vs) H
  | [] => rel
  | v :: vs => (Rel.wipe rel vs).forget v none
def mYes : Env → M Bool := fun _ => ret true
def mLcL (mg : D → Env → M Env) (mt : Env → M Bool) (me : Env → M D) : List D → Env → M (List D)
  | [], _ => ret []
  | d :: ds, ρ => bnd (nox (mg d ρ)) fun ρ1 => bnd (nox (mt ρ1)) fun b => if b = true then bnd (nox (me ρ1)) fun x => bnd (mLcL mg mt me ds ρ) fun xs => ret (x :: xs) else mLcL mg mt me ds ρ
def mComp (vs : List Nat) (mi : Env → M (List D)) (mg : D → Env → M Env) (mt : Env → M Bool) (me : Env → M D) : Env → M D := fun ρ => bnd (mi ρ) fun ds => need (ds.length ≤ LIM) (bnd (mLcL mg mt me ds (wipeE ρ vs)) fun xs => ret (.lst xs))
/-- whatever the outside is -/
def rdAny (m : Md) (c : RC) (W : WX) (me : Env → M D) : TE := fun σ H Q => ∃ B, rd m c B W me σ H Q
def rdTAny (c : RC) (W : WX) (mt : Env → M Bool) : TT := fun σ H Q => ∃ B, rdT c B W mt σ H Q
theorem pe_any (h : ∀ B, ME X m c B W e me) : PE X e (rdAny m c W me) := ⟨fun pins s σ H Q I ⟨B, hq⟩ => (h B).run pins s σ H Q I hq⟩
theorem pts_any {ifs : List Expr} {mt : Env → M Bool} (h : ∀ B, PTs X ifs (rdT c B W mt)) : PTs X ifs (rdTAny c W mt) := ⟨fun pins s σ H Q I ⟨B, hq⟩ => (h B).run pins s σ H Q I hq⟩
abbrev MTs (X : Cx) (c : RC) (B : List Addr) (W : WX) (ifs : List Expr) (mt : Env → M Bool) : Prop := PTs X ifs (rdT c B W mt)
theorem mts_nil : MTs X c B W [] mYes := ⟨fun pins s σ H Q I ⟨O, ρ, j, rel, out⟩ => pts_nil.run pins s σ H Q I (out.val rel)⟩
theorem mts_one {mt : Env → M Bool} (h : MT X c B W e mt) : MTs X c B W [e] mt := pts_one h
/-- the invariant of the turns -/
structure LcI (c : RC) (B O : List Addr) (σ : St) (vs : List Nat) (ρ : Env) (H1 : Hp) (p : Addr) (fin : List D → M D) (m : Md) (W : WX) (Q : VK) (mg : D → Env → M Env) (mt : Env → M Bool) (me : Env → M D) (ds : List D) (i : Nat) (H : Hp) : Prop where
  ex : ∃ (j : List Int) (acc : List V) (xs : List D), ExS (p :: c.Js) H1 H ∧ Rel c (p :: B) O (wipeE ρ vs) j (L2.wipe σ vs) H ∧ H p = some (.lst acc) ∧ Reps c (O ++ p :: B) H xs acc ∧ acc.length ≤ i ∧
    Out m c (O ++ B) W σ H1 Q (bnd (mLcL mg mt me (ds.drop i) (wipeE ρ vs)) (fun ys => fin (xs ++ ys)) j)
theorem Rel.upd1 {p : Addr} {o : HO} (rel : Rel c (p :: B) O ρ j σ H) (n : p ∉ c.Js) : Rel c (p :: B) O ρ j σ (upd H p o) := by
  have e : ExS [p] H (upd H p o) := fun x u q h => by rw [upd_ne (by simpa using q)]; exact h
  have pL : p ∈ O ++ p :: B := List.mem_append_right _ List.mem_cons_self
  have nO : ∀ x ∈ O, x ∉ [p] := fun x hx z => rel.disj x hx (by rw [show x = p from by simpa using z]; exact List.mem_cons_self)
  refine ⟨rel.len, fun k t w q1 q2 => (rel.sl k t w q1 q2).exS (mem1 pL) nO e, rel.inj, ?_, rel.jB, fun x hx h0 => ?_, rel.disj⟩
  · exact rel.jar.same fun y hy => upd_ne fun e => n (e ▸ hy)
  · by_cases z : x = p
    · subst z; rw [upd_same] at h0; cases h0
    · rw [upd_ne z] at h0; exact rel.dom x hx h0
theorem lc_core' {vs : List Nat} {mg : D → Env → M Env} {g : TG} {mt : Env → M Bool} {J : It} {ds : List D} {p : Addr} (hK : X.K = c.K) (ng : NG X.K g mg vs) (it : IterOk c B O J ds H) (rel : Rel c B O ρ j σ H) (hp : H p = none)
    (hl : ds.length ≤ LIM) (out : Out m c (O ++ B) W σ H Q (bnd (mLcL mg mt me ds (wipeE ρ vs)) (fun ys => ret (.lst ys)) j)) :
    ∃ V : Nat → Nat → Hp → Prop, (∃ n, V 0 n (upd H p (.lst []))) ∧ ∀ i n H2, V i n H2 → (J.stop i H2 ∧ Q (.ref p) H2) ∨ (J.go i H2 ∧ ∃ Nx : Hp → Prop, (∀ H', Nx H' → ∃ n', n' < n ∧ V (i + 1) n' H') ∧
      ∀ x H', J.yld i H2 x H' → g x (L2.wipe σ vs) H' fun σ2 H2 => L2.wipe σ2 vs = L2.wipe σ vs ∧ rdTAny c noW mt σ2 H2 fun b H3 =>
        if b = true then rdAny .keep c noW me σ2 H3 fun y H4 => ∃ acc, H4 p = some (.lst acc) ∧ acc.length < sizeLine ∧ Nx (upd H4 p (.lst (acc ++ [y]))) else Nx H3) := by
  have nJ : p ∉ c.Js := rel.neJ hp
  have np : p ∉ O ++ B := rel.fresh hp
  refine ⟨fun i n H2 => n = ds.length - i ∧ i ≤ ds.length ∧ LcI c B O σ vs ρ H p (fun ys => ret (.lst ys)) m W Q mg mt me ds i H2, ⟨ds.length, by simp, Nat.zero_le _, ⟨j, [], [], ?_, ?_, upd_same, rfl, Nat.zero_le _, out⟩⟩, ?_⟩
  · exact ExS.mono (S := []) (fun _ z => nomatch z) (ExS.new hp)
  · exact ((Rel.lend (H := upd H p (.lst [])) rel (ExS.new hp) (rel.ex (ExS.new hp) (rel.jar.new hp)) hp (by rw [upd_same]; exact fun z => nomatch z) nJ)).wipe vs
  rintro i n H2 ⟨rfl, hi, ⟨j2, acc, xs, ex2, rel2, hD, rx, la, out2⟩⟩
  have g2 : Grow c O H (p :: O) H2 := ⟨fun x o q z h => ex2 x o (by
    intro hx
    rcases List.mem_cons.mp hx with w | w
    · rw [w, hp] at h; cases h
    · exact z w) h, fun x hx => (List.mem_cons.mp hx).elim (fun e => .inr (e ▸ hp)) .inl, fun x z h => by
    cases q : H x with
    | none => exact absurd q h
    | some o =>
      rw [ex2 x o (fun hx => (List.mem_cons.mp hx).elim (fun w => by rw [w, hp] at q; cases q) z) q]
      exact fun w => nomatch w⟩
  have dom2 : ∀ x ∈ (p :: O) ++ B, H2 x ≠ none := fun x hx => by
    rcases List.mem_append.mp hx with z | z
    · rcases List.mem_cons.mp z with z | z
      · rw [z, hD]; exact fun q => nomatch q
      · exact rel2.dom x (List.mem_append_left _ z)
    · exact rel2.dom x (List.mem_append_right _ (List.mem_cons_of_mem _ z))
  obtain ⟨go, yl, stop⟩ := it i (p :: O) H2 g2 dom2 ⟨_, rel2.jar⟩
  have sub : ∀ x ∈ O ++ p :: B, x ∈ (p :: O) ++ B := fun x hx => by
    rcases List.mem_append.mp hx with z | z
    · exact List.mem_append_left _ (List.mem_cons_of_mem _ z)
    · rcases List.mem_cons.mp z with z | z
      · rw [z]; exact List.mem_append_left _ List.mem_cons_self
      · exact List.mem_append_right _ z
  by_cases hlt : i < ds.length
  · rw [List.drop_eq_getElem_cons hlt] at out2
    refine .inr ⟨go hlt, fun H3 => LcI c B O σ vs ρ H p (fun ys => ret (.lst ys)) m W Q mg mt me ds (i + 1) H3, fun H3 h3 => ⟨ds.length - (i + 1), by omega, rfl, hlt, h3⟩, fun x H3 hy => ?_⟩
    obtain ⟨e3, rp3, hj⟩ := yl ds[i] x H3 (by simp [hlt]) hy
    have rel3 := rel2.ex e3 (rel2.jar.same hj)
    have hD3 : H3 p = some (.lst acc) := e3.at nJ hD
    have ex3 : ExS (p :: c.Js) H H3 := ex2.trans (ExS.mono (fun x hx => List.mem_cons_of_mem _ hx) e3)
    have rx3 := Reps.ex (c := c) rel3.jL e3 rx
    have out3 : Out m c (O ++ B) W σ H Q (bnd (bnd (nox (mg ds[i] (wipeE ρ vs))) fun ρ1 => bnd (nox (mt ρ1)) fun b => if b = true then bnd (nox (me ρ1)) fun x => bnd (mLcL mg mt me (ds.drop (i + 1)) (wipeE ρ vs)) fun xs => ret (x :: xs) else mLcL mg mt me (ds.drop (i + 1)) (wipeE ρ vs)) (fun ys => ret (.lst (xs ++ ys))) j2) := out2
    rw [bnd_assoc] at out3
    unfold bnd nox at out3
    cases q : mg ds[i] (wipeE ρ vs) j2 with
    | stk => rw [q] at out3; exact out3.elim
    | exc k z j' => rw [q] at out3; exact out3.elim
    | ok ρ4 j4 =>
      rw [q] at out3
      refine ng c (p :: B) O (wipeE ρ vs) j2 (L2.wipe σ vs) H3 ds[i] x ρ4 j4 _ hK rel3 (Rep.sub sub _ _ rp3) q fun σ4 e4 rel4 w4 => ?_
      subst e4
      refine ⟨w4.trans ?_, p :: B, O, ρ4, _, rel4, ?_⟩
      · have idem : ∀ l : List Nat, (∀ v ∈ l, v ∈ vs) → L2.wipe (L2.wipe σ vs) l = L2.wipe σ vs := fun l => by
          induction l with
          | nil => intro _; rfl
          | cons v l ih =>
            intro hv
            show (L2.wipe (L2.wipe σ vs) l).set v none = _
            rw [ih fun x hx => hv x (List.mem_cons_of_mem _ hx)]
            have hm := hv v List.mem_cons_self
            have key : ∀ l' : List Nat, v ∈ l' → (L2.wipe σ l').set v none = L2.wipe σ l' := fun l' => by
              induction l' with
              | nil => intro h; cases h
              | cons u l' ih' =>
                intro h
                show ((L2.wipe σ l').set u none).set v none = (L2.wipe σ l').set u none
                by_cases e : u = v
                · subst e; rw [List.set_set]
                · rw [List.set_comm _ _ e, ih' ((List.mem_cons.mp h).resolve_left (Ne.symm e))]
            exact key vs hm
        exact idem vs fun _ h => h
      · dsimp only at out3
        cases q2 : mt ρ4 j4 with
        | stk => rw [q2] at out3; exact out3.elim
        | exc k z j' => rw [q2] at out3; exact out3.elim
        | ok b5 j5 =>
          rw [q2] at out3
          intro H5 e5 hj5
          have rel5 := rel4.ex e5 hj5
          have ex5 : ExS (p :: c.Js) H H5 := ex3.trans (ExS.mono (fun x hx => List.mem_cons_of_mem _ hx) e5)
          have relw := rel3.ex e5 hj5
          have rx5 := Reps.ex (c := c) rel4.jL e5 rx3
          dsimp only at out3
          cases b5 with
          | false => exact ⟨⟨j5, acc, xs, ex5, relw, e5.at nJ hD3, rx5, Nat.le_succ_of_le la, out3⟩⟩
          | true =>
            refine ⟨p :: B, O, ρ4, j5, rel5, ?_⟩
            have out6 : Out m c (O ++ B) W σ H Q (bnd (bnd (nox (me ρ4)) fun x => bnd (mLcL mg mt me (ds.drop (i + 1)) (wipeE ρ vs)) fun xs => ret (x :: xs)) (fun ys => ret (.lst (xs ++ ys))) j5) := out3
            rw [bnd_assoc] at out6
            unfold bnd nox at out6
            cases q6 : me ρ4 j5 with
            | stk => rw [q6] at out6; exact out6.elim
            | exc k z j' => rw [q6] at out6; exact out6.elim
            | ok d6 j6 =>
              rw [q6] at out6
              intro y H6 e6 hj6 rp6
              have ex6 : ExS (p :: c.Js) H H6 := ex5.trans (ExS.mono (fun x hx => List.mem_cons_of_mem _ hx) e6)
              have hD6 := e6.at nJ (e5.at nJ hD3)
              have hlen : acc.length < LIM := by omega
              refine ⟨acc, hD6, lim_lt hlen, ⟨⟨j6, acc ++ [y], xs ++ [d6], ?_, (relw.ex e6 hj6).upd1 nJ, upd_same, ?_, by simp; omega, ?_⟩⟩⟩
              · exact ex6.trans fun z u nz hz => by
                  rw [upd_ne (fun w => nz (by rw [w]; simp))]; exact hz
              · exact Reps.upd (List.mem_append_right _ List.mem_cons_self) ((Reps.ex (c := c) rel5.jL e6 rx5).app (Reps.one rp6))
              · have out7 : Out m c (O ++ B) W σ H Q (bnd (bnd (mLcL mg mt me (ds.drop (i + 1)) (wipeE ρ vs)) fun xs => ret (d6 :: xs)) (fun ys => ret (.lst (xs ++ ys))) j6) := out6
                rw [bnd_assoc] at out7
                have e : (fun x => bnd (ret (d6 :: x)) fun ys => ret (D.lst (xs ++ ys))) = fun ys => (ret (D.lst (xs ++ [d6] ++ ys)) : M D) := by
                  funext ys
                  rw [bnd_ret, List.append_assoc]
                  rfl
                rw [e] at out7
                exact out7
  · have e : i = ds.length := by omega
    subst e
    rw [List.drop_length] at out2
    have out2 : Out m c (O ++ B) W σ H Q (ret (.lst (xs ++ [])) j2) := out2
    rw [List.append_nil] at out2
    refine .inl ⟨stop rfl, out2 (.ref p) H2 (fun x o q h => ex2 x o (fun hx => ?_) h) rel2.jar (RepM.ofF rel.jL ⟨p, acc, rfl, np, hp, hD, Reps.sub (fun x hx => ?_) _ _ rx⟩)⟩
    · rcases List.mem_cons.mp hx with w | w
      · rw [w, hp] at h; cases h
      · exact q w
    · rcases List.mem_cons.mp hx with z | z
      · rw [z]; exact List.mem_append_right _ List.mem_cons_self
      · rcases List.mem_append.mp z with z | z
        · exact List.mem_append_left _ z
        · exact List.mem_append_right _ (List.mem_cons_of_mem _ z)
theorem tLc_of {vs : List Nat} {mi : Env → M (List D)} {mg : D → Env → M Env} {g : TG} {mt : Env → M Bool} (hK : X.K = c.K) (ng : NG X.K g mg vs) (h : rd m c B W (mComp vs mi mg mt me) σ H Q) :
    tLc (rdI c B W mi) g (rdTAny c noW mt) (rdAny .keep c noW me) vs σ H Q := by
  obtain ⟨O, ρ, j, rel, out⟩ := h
  refine ⟨O, ρ, j, rel, ?_⟩
  unfold mComp bnd at out
  cases q : mi ρ j with
  | stk => rw [q] at out; exact out.elim
  | exc k x j' => rw [q] at out; exact out
  | ok ds j1 =>
    rw [q] at out
    intro J H1 e1 hj1 it p hp
    have rel1 := rel.ex e1 hj1
    obtain ⟨hl, o⟩ := need_out (r := .stk) (Out.ex e1 rel.jar hj1 out)
    exact lc_core' hK ng it rel1 hp hl o
theorem me_comp {elt tg iter : Expr} {ifs : List Expr} {scope : Scope} {own : List (Str × Nat)} {mi : Env → M (List D)} {mg : D → Env → M Env} {g : TG} {mt : Env → M Bool} (hK : X.K = c.K) (hc : X.calm = true) (hN : X.N.Nodup) (hi : MI X c B W tg iter mi) (ok : BlkOk X.N X.env.scope scope own)
    (hg : ∀ (s : Shared) (H : Hp) (C : Addr) (cl : List (Str × Addr)) (fp : List Addr), PG (X.blk s H scope (compEnvC scope cl C X.env) fp) tg g) (ng : NG X.K g mg (own.map (·.2)))
    (ht : ∀ (s : Shared) (H : Hp) (C : Addr) (cl : List (Str × Addr)) (fp B : List Addr), MTs (X.blk s H scope (compEnvC scope cl C X.env) fp) c B noW ifs mt)
    (he : ∀ (s : Shared) (H : Hp) (C : Addr) (cl : List (Str × Addr)) (fp B : List Addr), ME (X.blk s H scope (compEnvC scope cl C X.env) fp) .keep c B noW elt me) (hs : ∀ x, foldedSetIterable iter X.env x = pure x := by intro _; rfl) :
    ME X m c B W (.ListComp elt [⟨tg, iter, ifs, 0⟩] scope pos) (mComp (own.map (·.2)) mi mg mt me) :=
  me_mono (pe_lc hc hN hi ok hg (fun s H C cl fp => pts_any (ht s H C cl fp)) (fun s H C cl fp => pe_any (he s H C cl fp)) hs) fun σ H Q h => tLc_of hK ng h
/-- y = [..] on one line, y a local name -/
theorem ms_setComp {i : Nat} {y : Str} {py spos : Pos} {elt tg iter : Expr} {ifs : List Expr} {scope : Scope} {own : List (Str × Nat)} {mi : Env → M (List D)} {mg : D → Env → M Env} {g : TG} {mt : Env → M Bool} (hK : X.K = c.K) (hc : X.calm = true) (hN : X.N.Nodup) (hi : MI X c B W tg iter mi) (ok : BlkOk X.N X.env.scope scope own)
    (hg : ∀ (s : Shared) (H : Hp) (C : Addr) (cl : List (Str × Addr)) (fp : List Addr), PG (X.blk s H scope (compEnvC scope cl C X.env) fp) tg g) (ng : NG X.K g mg (own.map (·.2)))
    (ht : ∀ (s : Shared) (H : Hp) (C : Addr) (cl : List (Str × Addr)) (fp B : List Addr), MTs (X.blk s H scope (compEnvC scope cl C X.env) fp) c B noW ifs mt)
    (he : ∀ (s : Shared) (H : Hp) (C : Addr) (cl : List (Str × Addr)) (fp B : List Addr), ME (X.blk s H scope (compEnvC scope cl C X.env) fp) .keep c B noW elt me) (hy : X.N[i]? = some y := by rfl) (hyl : X.env.scope.names.lookup y = some .local := by rfl)
    (hsw : swapsWith (.ListComp elt [⟨tg, iter, ifs, 0⟩] scope pos) (some (.Name y py)) spos.line X.env = pure true := by exact sw_true rfl rfl rfl (by decide +kernel)) (hs : ∀ x, foldedSetIterable iter X.env x = pure x := by intro _; rfl) :
    MS X c B W (.Assign [.Name y py] (.ListComp elt [⟨tg, iter, ifs, 0⟩] scope pos) spos) (mSetO i (mComp (own.map (·.2)) mi mg mt me)) :=
  ms_mono (ps_setLc hc hN hy hyl hsw hi ok hg (fun s H C cl fp => pts_any (ht s H C cl fp)) (fun s H C cl fp => pe_any (he s H C cl fp)) hs) fun D σ H ⟨O, ρ, j, rel, out⟩ => tLc_of (m := .fresh) hK ng (rd_bndS0 rel out fun d j1 v H1 rel1 e1 rp out1 => by
    obtain ⟨O', g', r'⟩ := Rel.setSl (o := true) rel e1 rel1 (i := i) rp
    exact out1 O' _ H1 g' r')
end
end Mir
set_option Elab.async false
set_option linter.all false
set_option maxRecDepth 100000
set_option maxHeartbeats 4000000
/-! Mir8: defs and their calls by mirrors. -/
namespace Mir
open PySem L2
section
variable {X : Cx} {m : Md} {c : RC} {B O O' L : List Addr} {W : WX} {e a b : Expr} {me ma mb : Env → M D} {pos : Pos} {σ : St} {H H' : Hp} {Q : VK} {ρ : Env} {j : List Int} {D' : Ends} {st : Stmt} {sts : List Stmt}
/-- what a def is worth: its arguments as data, its value by the mirror -/
def spD (c : RC) (n : Nat) (f : List D → M D) : Sp := fun vs H Q E => vs.length = n ∧ ∃ (L : List Addr) (j : List Int) (ds : List D), InJ c L ∧ (∀ a ∈ L, H a ≠ none) ∧ JarAt c H j ∧ Reps c L H ds vs ∧ Out .keep c L (fun cls d _ H => E cls d H) [] H Q (f ds j)
/-- the state at a def's beginning -/
def envOf (n : Nat) (ds : List D) : Env := ds.map .val ++ List.replicate (n - ds.length) .no
def mDef (n : Nat) (ms : Env → M Fl) : List D → M D := fun ds => bnd (ms (envOf n ds)) fun f => match f with
  | .rt d => ret d
  | .rtF d => ret d
  | .nx _ => ret .non
  | _ => stuck
theorem rel_start {N : List Str} {ds : List D} {vs : List V} (jL : InJ c L) (dom : ∀ a ∈ L, H a ≠ none) (hj : JarAt c H j) (r : Reps c L H ds vs) : Rel c L [] (envOf N.length ds) j (L2.start N vs) H := by
  have hl := r.len
  refine ⟨by simp [envOf, L2.start, hl], fun i s o h1 h2 => ?_, fun i k s t a h1 _ o1 _ _ _ => ?_, hj, jL, by simpa using dom, fun a h => by cases h⟩
  · unfold envOf at h1
    unfold L2.start at h2
    by_cases q : i < ds.length
    · rw [List.getElem?_append_left (by simpa using q), List.getElem?_map] at h1
      rw [List.getElem?_append_left (by simpa [← hl] using q), List.getElem?_map] at h2
      rw [List.getElem?_eq_getElem q] at h1
      cases h1
      obtain ⟨v, hv, rp⟩ := r.get (i := i) (d := ds[i]) (by simp [q])
      rw [hv] at h2
      cases h2
      exact ⟨v, rfl, rp⟩
    · rw [List.getElem?_append_right (by simpa using q)] at h1
      have z := (List.getElem?_eq_some_iff.mp h1).2
      rw [List.getElem_replicate] at z
      subst z
      trivial
  · unfold envOf at h1
    by_cases q : i < ds.length
    · rw [List.getElem?_append_left (by simpa using q), List.getElem?_map, List.getElem?_eq_getElem q] at h1
      cases h1; cases o1
    · rw [List.getElem?_append_right (by simpa using q)] at h1
      have z := (List.getElem?_eq_some_iff.mp h1).2
      rw [List.getElem_replicate] at z
      subst z
      cases o1
theorem def_out {n : Nat} {ms : Env → M Fl} {ds : List D} {E : XK} (out : Out .keep c L (fun cls d _ H => E cls d H) [] H Q (mDef n ms ds j)) :
    OutS c L (fun cls d _ H => E cls d H) { nx := fun _ H' => Q .non H', rt := Q } [] H (ms (envOf n ds) j) := by
  have ex : ∀ {O' : List Addr} {H' : Hp}, Grow c [] H O' H' → Ex c H H' := fun g a o n h => g.keep a o (fun z => nomatch z) n h
  unfold mDef bnd at out
  cases q : ms (envOf n ds) j with
  | stk => rw [q] at out; exact out
  | exc k x j' =>
    rw [q] at out
    exact fun O' ρ' σ' H' dx v g rel rp hd => out dx H' v (ex g) rel.jar (Rep.sub (fun y hy => List.mem_append_right _ hy) _ _ rp) hd
  | ok f j' =>
    rw [q] at out
    cases f with
    | nx ρ' => exact fun O' σ' H' g rel => out .non H' (ex g) rel.jar rfl
    | rt d => exact fun O' ρ' σ' H' v g rel rp => out v H' (ex g) rel.jar (Rep.sub (fun y hy => List.mem_append_right _ hy) _ _ rp)
    | rtF d => exact fun O' ρ' σ' H' v g rel rp => out v H' (ex g) rel.jar (Rep.sub (fun y hy => List.mem_append_right _ hy) _ _ rp.keep)
    | bk ρ' => exact out.elim
    | ct ρ' => exact out.elim
/-- a def keeps its mirror -/
theorem fn_ok {P : Program} {w : World} {K : PySem.W.Frag} {mg : Str → Option Value} {base : Heap} {x qual : Str} {st : Stmt} {f : Addr} {fd : FuncData} {N ps : List Str} {k : Nat} {ms : Env → M Fl} (F : Fun K x qual st f fd) (S : FnScope N ps (defScope st))
    (body : ∀ (cdv : Value) (A : Around) (outer : List PySem.Env) (s : Shared) (H : Hp) (E : XK) (B : List Addr), Room k (A.deeper (PyProof.Rows.envOfC qual (defScope st) s.heap.objs.size f cdv)) →
      MSs (cxOf (L2.CX P w) P w K mg base N qual (defScope st) f cdv A outer s H E) c B (fun cls d _ H => E cls d H) (defBody st) ms) :
    FnOk P w K mg base (L2.CX P w) (k + 1) f fd ps (spD c ps.length (mDef N.length ms)) := by
  refine F.okX S (fun vs H Q E h => h.1) fun cdv A outer s H vs Q E hr h => ?_
  obtain ⟨_, L, j, ds, jL, dom, hj, r, out⟩ := h
  exact ⟨rdS c L (fun cls d _ H => E cls d H) ms, body cdv A outer s H E L hr, [], envOf N.length ds, j, rel_start jL dom hj r, def_out out⟩
def mCall (n : Nat) (f : List D → M D) (ml : Env → M (List D)) : Env → M D := fun ρ => bnd (ml ρ) fun ds => if ds.length = n then f ds else stuck
theorem call_sp {n : Nat} {f : List D → M D} {ds : List D} {vs : List V} {E : XK} (rel : Rel c B O ρ j σ H) (r : Reps c (O ++ B) H ds vs) (hE : ∀ cls d H', W cls d σ H' → E cls d H')
    (out : Out .keep c (O ++ B) W σ H Q ((if ds.length = n then f ds else stuck : M D) j)) : spD c n f vs H Q E := by
  by_cases h : ds.length = n
  · rw [if_pos h] at out
    refine ⟨by rw [← r.len]; exact h, O ++ B, j, ds, rel.jL, rel.dom, rel.jar, r, ?_⟩
    cases q : f ds j with
    | ok d j' => rw [q] at out; exact out
    | exc k g j' => rw [q] at out; exact fun dx H' v e hj rp hd => hE _ _ _ (out dx H' v e hj rp hd)
    | stk => rw [q] at out; exact out
  · rw [if_neg h] at out; exact out.elim
theorem me_call {k n : Nat} {f : Addr} {fd : FuncData} {ps : List Str} {fm : List D → M D} {x : Str} {p : Pos} {es : List Expr} {ml : Env → M (List D)} (F : FnOk X.prog X.w X.K X.mg X.base (L2.CX X.prog X.w) k f fd ps (spD c n fm)) (hr : Room k X.A) (hm : X.mg x = some (.ref f))
    (hk : PySem.W.keepIn X.K (.ref f) = true) (hb : Binds X.K fd ps []) (tk : Takes X W) (ha : MA X c B W (e :: es) ml) (hg : Gl X x := by rfl) (hd : (x == ("__debug__" : Str)) = false := by decide)
    (hst : starEach (e :: es) X.env = (false, eval e X.env) :: starEach es X.env := by rfl) (hpl : ((backTo pos (starEach es X.env)).any fun x => x.1) = false := by rfl) : ME X .keep c B W (.Call (.Name x p) (e :: es) [] pos) (mCall n fm ml) :=
  me_mono (pe_callS (E := WE W) F hr hg hm hk hb (fun σ => passAt tk σ) ha hd hst hpl) fun σ H Q ⟨O, ρ, j, rel, out⟩ => rdA_bnd (m' := .keep) rel out fun ds j1 vs H1 rel1 e1 rp out1 => call_sp rel1 rp (fun _ _ _ h => h) out1
end
end Mir
set_option Elab.async false
set_option linter.all false
set_option maxRecDepth 100000
set_option maxHeartbeats 4000000
/-! Mir9: subscripts, slices, built-in functions, methods by mirrors. -/
namespace Mir
open PySem L2
section
variable {X : Cx} {m : Md} {c : RC} {B O O' L : List Addr} {W : WX} {e a b : Expr} {me ma mb : Env → M D} {pos : Pos} {σ : St} {H H' : Hp} {Q : VK} {ρ : Env} {j : List Int} {D' : Ends} {st : Stmt} {sts : List Stmt}
/-! ### values that are part of others -/
theorem Out.kept {d : D} {v : V} (r : Rel c B O ρ j σ H) (h : Out .keep c (O ++ B) W σ H Q (ret d j)) (rp : Rep c (O ++ B) H d v) : Q v H := h v H ExS.refl r.jar rp
/-! ### arguments that are only looked at -/
def RepsB (c : RC) (L : List Addr) (H : Hp) : List D → List V → Prop
  | [], vs => vs = []
  | d :: ds, vs => ∃ v r, vs = v :: r ∧ RepB c L H d v ∧ RepsB c L H ds r
theorem RepsB.ex (hJ : InJ c L) (e : Ex c H H') : ∀ {ds : List D} {vs : List V}, RepsB c L H ds vs → RepsB c L H' ds vs
  | [], _, h => h
  | d :: ds, _, h => by
    obtain ⟨v, r, e1, h1, h2⟩ := h
    exact ⟨v, r, e1, RepB.ex hJ e h1, RepsB.ex hJ e h2⟩
def OutL (c : RC) (L : List Addr) (W : WX) (σ : St) (H : Hp) (Q : List V → Hp → Prop) : Res (List D) → Prop
  | .ok ds j => ∀ vs H', Ex c H H' → JarAt c H' j → RepsB c L H' ds vs → Q vs H'
  | .exc k g j => Out .keep c L W σ H (fun _ _ => True) (.exc k g j)
  | .stk => False
def rdL (c : RC) (B : List Addr) (W : WX) (ma : Env → M (List D)) : TA := fun σ H Q => ∃ O ρ j, Rel c B O ρ j σ H ∧ OutL c (O ++ B) W σ H Q (ma ρ j)
abbrev ML (X : Cx) (c : RC) (B : List Addr) (W : WX) (es : List Expr) (ma : Env → M (List D)) : Prop := PA X es (rdL c B W ma)
theorem pl_mono {es : List Expr} {t : TA} {ma : Env → M (List D)} (h : PA X es t) (hh : ∀ σ H Q, rdL c B W ma σ H Q → t σ H Q) : ML X c B W es ma := ⟨fun pos pins s σ H Q I hq => h.run pos pins s σ H Q I (hh σ H Q hq)⟩
theorem ml_nil : ML X c B W [] mNil := pl_mono pa_nil fun σ H Q ⟨O, ρ, j, rel, out⟩ => out [] H ExS.refl rel.jar rfl
theorem ml_cons {es : List Expr} {ml : Env → M (List D)} (he : ME X .look c B W e me) (hs : ML X c B W es ml) (h : starEach (e :: es) X.env = (false, eval e X.env) :: starEach es X.env := by rfl) : ML X c B W (e :: es) (mCons me ml) :=
  pl_mono (pa_cons he hs h) fun σ H Q ⟨O, ρ, j, rel, out⟩ => by
    unfold mCons at out
    refine ⟨O, ρ, j, rel, ?_⟩
    unfold bnd at out
    cases q : me ρ j with
    | ok d j1 =>
      rw [q] at out
      refine fun v H1 e1 hj1 rp1 => ⟨O, ρ, j1, rel.ex e1 hj1, ?_⟩
      cases q2 : ml ρ j1 with
      | ok ds j2 =>
        dsimp only at out
        rw [q2] at out
        exact fun vs H2 e2 hj2 rp2 => out (v :: vs) H2 (e1.trans e2) hj2 ⟨v, vs, rfl, RepB.ex rel.jL e2 rp1, rp2⟩
      | exc k g j' =>
        dsimp only at out
        rw [q2] at out
        exact Out.ex (m := .keep) (Q := fun _ _ => True) e1 rel.jar hj1 (show Out .keep c (O ++ B) W σ H (fun _ _ => True) (.exc k g j') from out)
      | stk =>
        dsimp only at out
        rw [q2] at out; exact out
    | exc k g j' => rw [q] at out; exact out
    | stk => rw [q] at out; exact out
theorem rdL_bnd {P : List V → Hp → Prop} {ml : Env → M (List D)} {k : List D → M D} (rel : Rel c B O ρ j σ H) (out : Out m c (O ++ B) W σ H Q (bnd (ml ρ) k j))
    (hP : ∀ ds j1 vs H1, Rel c B O ρ j1 σ H1 → Ex c H H1 → RepsB c (O ++ B) H1 ds vs → Out m c (O ++ B) W σ H1 Q (k ds j1) → P vs H1) : rdL c B W ml σ H P := by
  refine ⟨O, ρ, j, rel, ?_⟩
  unfold bnd at out
  cases q : ml ρ j with
  | ok d j1 =>
    rw [q] at out
    exact fun v H1 e hj rp => hP d j1 v H1 (rel.ex e hj) e rp (out.ex e rel.jar hj)
  | exc k g j' => rw [q] at out; exact out
  | stk => rw [q] at out; exact out.elim
/-- a rule of a built-in function and its mirror -/
def OkC (m : Md) (c : RC) (r : List V → Hp → VK → Prop) (f : List D → M D) : Prop := ∀ (B O : List Addr) (W : WX) (ρ : Env) (j : List Int) (σ : St) (H : Hp) (Q : VK) (ds : List D) (vs : List V),
  Rel c B O ρ j σ H → RepsB c (O ++ B) H ds vs → Out m c (O ++ B) W σ H Q (f ds j) → r vs H Q
def mCl (f : List D → M D) (ml : Env → M (List D)) : Env → M D := fun ρ => bnd (ml ρ) f
theorem me_callB {id : String} {x : Str} {p : Pos} {es : List Expr} {r : List V → Hp → VK → Prop} {f : List D → M D} {ml : Env → M (List D)} (hc : CallR X (.builtin id) r) (ok : OkC m c r f) (hm : X.mg x = none) (ha : ML X c B W (e :: es) ml) (hv : bootBuiltins x = some (.builtin id)) (hg : Gl X x := by rfl)
    (hn : x ≠ "__name__" := by decide) (hdb : (x == ("__debug__" : Str)) = false := by decide)
    (he : starEach (e :: es) X.env = (false, eval e X.env) :: starEach es X.env := by rfl) (hpl : ((backTo pos (starEach es X.env)).any fun x => x.1) = false := by rfl) : ME X m c B W (.Call (.Name x p) (e :: es) [] pos) (mCl f ml) :=
  me_mono (pe_callB hc hg hm hv ha hn hdb he hpl) fun σ H Q ⟨O, ρ, j, rel, out⟩ => rdL_bnd rel out fun ds j1 vs H1 rel1 e1 rp out1 => ok B O W ρ j1 σ H1 Q ds vs rel1 rp out1
theorem me_callTy {T : String} {x : Str} {p : Pos} {es : List Expr} {r : List V → Hp → VK → Prop} {f : List D → M D} {ml : Env → M (List D)} (hc : CallR X (.type T) r) (ok : OkC m c r f) (hm : X.mg x = none) (ha : ML X c B W (e :: es) ml) (hv : bootBuiltins x = some (.type T)) (hg : Gl X x := by rfl)
    (hn : x ≠ "__name__" := by decide) (hdb : (x == ("__debug__" : Str)) = false := by decide)
    (he : starEach (e :: es) X.env = (false, eval e X.env) :: starEach es X.env := by rfl) (hpl : ((backTo pos (starEach es X.env)).any fun x => x.1) = false := by rfl) : ME X m c B W (.Call (.Name x p) (e :: es) [] pos) (mCl f ml) :=
  me_mono (pe_callTy hc hg hm hv ha hn hdb he hpl) fun σ H Q ⟨O, ρ, j, rel, out⟩ => rdL_bnd rel out fun ds j1 vs H1 rel1 e1 rp out1 => ok B O W ρ j1 σ H1 Q ds vs rel1 rp out1
theorem CallR.or {f : Value} {r r' : List V → Hp → VK → Prop} (h : CallR X f r) (h' : CallR X f r') : CallR X f fun vs H Q => r vs H Q ∨ r' vs H Q := fun pins s σ H xs us Q I rs q =>
  q.elim (h pins s σ H xs us Q I rs) (h' pins s σ H xs us Q I rs)
/-! ### lists of one kind -/
def toInts : List D → Option (List Int)
  | [] => some []
  | .int i :: r => (toInts r).map fun is => i :: is
  | _ :: _ => none
def toBools : List D → Option (List Bool)
  | [] => some []
  | .bl i :: r => (toBools r).map fun is => i :: is
  | _ :: _ => none
def toStrs : List D → Option (List Str)
  | [] => some []
  | .str i :: r => (toStrs r).map fun is => i :: is
  | _ :: _ => none
theorem toInts_some {d : D} {r : List D} {is : List Int} (h : toInts (d :: r) = some is) : ∃ i t, d = .int i ∧ toInts r = some t ∧ is = i :: t := by
  cases d <;> first | (cases h; done) | skip
  rename_i i
  have h : (toInts r).map (fun is => i :: is) = some is := h
  cases q : toInts r with
  | none => rw [q] at h; cases h
  | some t => rw [q] at h; cases h; exact ⟨i, t, rfl, rfl, rfl⟩
theorem toBools_some {d : D} {r : List D} {is : List Bool} (h : toBools (d :: r) = some is) : ∃ i t, d = .bl i ∧ toBools r = some t ∧ is = i :: t := by
  cases d <;> first | (cases h; done) | skip
  rename_i i
  have h : (toBools r).map (fun is => i :: is) = some is := h
  cases q : toBools r with
  | none => rw [q] at h; cases h
  | some t => rw [q] at h; cases h; exact ⟨i, t, rfl, rfl, rfl⟩
theorem toStrs_some {d : D} {r : List D} {is : List Str} (h : toStrs (d :: r) = some is) : ∃ i t, d = .str i ∧ toStrs r = some t ∧ is = i :: t := by
  cases d <;> first | (cases h; done) | skip
  rename_i i
  have h : (toStrs r).map (fun is => i :: is) = some is := h
  cases q : toStrs r with
  | none => rw [q] at h; cases h
  | some t => rw [q] at h; cases h; exact ⟨i, t, rfl, rfl, rfl⟩
theorem Reps.ints : ∀ {ds : List D} {vs : List V} {is : List Int}, Reps c L H ds vs → toInts ds = some is → vs = is.map V.int
  | [], _, _, h, e => by cases e; exact h
  | d :: ds, _, _, h, e => by
    obtain ⟨v, r, rfl, h1, h2⟩ := h
    obtain ⟨i, t, rfl, e2, rfl⟩ := toInts_some e
    rw [Reps.ints h2 e2, show v = V.int i from h1]; rfl
theorem Reps.bools : ∀ {ds : List D} {vs : List V} {is : List Bool}, Reps c L H ds vs → toBools ds = some is → vs = is.map V.bl
  | [], _, _, h, e => by cases e; exact h
  | d :: ds, _, _, h, e => by
    obtain ⟨v, r, rfl, h1, h2⟩ := h
    obtain ⟨i, t, rfl, e2, rfl⟩ := toBools_some e
    rw [Reps.bools h2 e2, show v = V.bl i from h1]; rfl
theorem Reps.strs : ∀ {ds : List D} {vs : List V} {is : List Str}, Reps c L H ds vs → toStrs ds = some is → vs = is.map V.str
  | [], _, _, h, e => by cases e; exact h
  | d :: ds, _, _, h, e => by
    obtain ⟨v, r, rfl, h1, h2⟩ := h
    obtain ⟨i, t, rfl, e2, rfl⟩ := toStrs_some e
    rw [Reps.strs h2 e2, show v = V.str i from h1]; rfl
theorem Reps.ofInts : ∀ (is : List Int), Reps c L H (is.map D.int) (is.map V.int)
  | [] => rfl
  | i :: is => ⟨_, _, rfl, rfl, Reps.ofInts is⟩
theorem Reps.ofStrs : ∀ (is : List Str), Reps c L H (is.map D.str) (is.map V.str)
  | [] => rfl
  | i :: is => ⟨_, _, rfl, rfl, Reps.ofStrs is⟩
/-- by the list of ints, if it is one -/
def onInts (ds : List D) (k : List Int → M D) : M D := match toInts ds with
  | some is => k is
  | none => stuck
def onBools (ds : List D) (k : List Bool → M D) : M D := match toBools ds with
  | some is => k is
  | none => stuck
def onStrs (ds : List D) (k : List Str → M D) : M D := match toStrs ds with
  | some is => k is
  | none => stuck
theorem onInts_out {ds : List D} {vs : List V} {k : List Int → M D} (h : Out m c L W σ H Q (onInts ds k j)) (r : Reps c L H ds vs) : ∃ is, toInts ds = some is ∧ vs = is.map V.int ∧ Out m c L W σ H Q (k is j) := by
  unfold onInts at h
  cases q : toInts ds with
  | none => rw [q] at h; exact h.elim
  | some is => rw [q] at h; exact ⟨is, rfl, r.ints q, h⟩
theorem onBools_out {ds : List D} {vs : List V} {k : List Bool → M D} (h : Out m c L W σ H Q (onBools ds k j)) (r : Reps c L H ds vs) : ∃ is, toBools ds = some is ∧ vs = is.map V.bl ∧ Out m c L W σ H Q (k is j) := by
  unfold onBools at h
  cases q : toBools ds with
  | none => rw [q] at h; exact h.elim
  | some is => rw [q] at h; exact ⟨is, rfl, r.bools q, h⟩
theorem onStrs_out {ds : List D} {vs : List V} {k : List Str → M D} (h : Out m c L W σ H Q (onStrs ds k j)) (r : Reps c L H ds vs) : ∃ is, toStrs ds = some is ∧ vs = is.map V.str ∧ Out m c L W σ H Q (k is j) := by
  unfold onStrs at h
  cases q : toStrs ds with
  | none => rw [q] at h; exact h.elim
  | some is => rw [q] at h; exact ⟨is, rfl, r.strs q, h⟩
theorem RepsB.one {d : D} {vs : List V} (h : RepsB c L H [d] vs) : ∃ v, vs = [v] ∧ RepB c L H d v := by
  obtain ⟨v, r, rfl, h1, h2⟩ := h
  cases (show r = [] from h2)
  exact ⟨v, rfl, h1⟩
theorem RepsB.two {d d2 : D} {vs : List V} (h : RepsB c L H [d, d2] vs) : ∃ v w, vs = [v, w] ∧ RepB c L H d v ∧ RepB c L H d2 w := by
  obtain ⟨v, r, rfl, h1, h2⟩ := h
  obtain ⟨w, rfl, h3⟩ := RepsB.one h2
  exact ⟨v, w, rfl, h1, h3⟩
/-! ### len -/
def dLen : List D → M D
  | [.str s] => need (s.length ≤ LIM) (ret (.int (s.length : Nat)))
  | [.tup xs] => ret (.int (xs.length : Nat))
  | [.lst xs] => ret (.int (xs.length : Nat))
  | [.scr ns] => ret (.int (ns.length : Nat))
  | _ => stuck
def rLenA (K : PySem.W.Frag) : List V → Hp → VK → Prop := fun xs H Q => (∃ p ys, xs = [.ref p] ∧ (SqL K H p ys ∨ SqT K H p ys) ∧ Q (.int ys.length) H) ∨ (∃ z, xs = [.str z] ∧ z.length ≤ sizeLine ∧ Q (.int z.length) H)
theorem cr_lenA : CallR X (.builtin "len") (rLenA X.K) := CallR.or call_len_seq call_len_str
theorem ok_len (hK : X.K = c.K) : OkC m c (rLenA X.K) dLen := by
  intro B O W ρ j σ H Q ds vs rel rp out
  unfold dLen at out
  split at out <;> first | exact out.elim | skip
  · obtain ⟨v, rfl, r⟩ := rp.one
    cases (show v = .str _ from r)
    obtain ⟨h1, h2⟩ := need_out (r := .stk) out
    exact .inr ⟨_, rfl, lim_le h1, h2.val rel rfl⟩
  · obtain ⟨v, rfl, r⟩ := rp.one
    obtain ⟨a, vs, rfl, t, r⟩ := r.tup
    exact .inl ⟨a, vs, rfl, .inr (hK ▸ t), by rw [← r.len]; exact out.val rel rfl⟩
  · obtain ⟨v, rfl, r⟩ := rp.one
    obtain ⟨a, vs, rfl, t, r⟩ := r.lst
    exact .inl ⟨a, vs, rfl, .inl (SqL.of t), by rw [← r.len]; exact out.val rel rfl⟩
  · obtain ⟨v, rfl, r⟩ := rp.one
    obtain ⟨a, rfl, t⟩ := r
    exact .inl ⟨a, _, rfl, .inl (hK ▸ t.sq), by rw [List.length_map]; exact out.val rel rfl⟩
/-! ### ints -/
def dAbs : List D → M D
  | [.int i] => ret (.int (if i < 0 then -i else i))
  | _ => stuck
theorem ok_abs : OkC m c (fun xs H Q => ∃ i, xs = [.int i] ∧ Q (.int (if i < 0 then -i else i)) H) dAbs := by
  intro B O W ρ j σ H Q ds vs rel rp out
  unfold dAbs at out
  split at out <;> first | exact out.elim | skip
  obtain ⟨v, rfl, r⟩ := rp.one
  cases (show v = .int _ from r)
  exact ⟨_, rfl, out.val rel rfl⟩
def dMax2 : List D → M D
  | [.int i, .int k] => ret (.int (if k > i then k else i))
  | _ => stuck
theorem ok_max2 : OkC m c (fun xs H Q => ∃ i j, xs = [.int i, .int j] ∧ Q (.int (if j > i then j else i)) H) dMax2 := by
  intro B O W ρ j σ H Q ds vs rel rp out
  unfold dMax2 at out
  split at out <;> first | exact out.elim | skip
  obtain ⟨v, w, rfl, r, r2⟩ := rp.two
  cases (show v = .int _ from r)
  cases (show w = .int _ from r2)
  exact ⟨_, _, rfl, out.val rel rfl⟩
def dMin2 : List D → M D
  | [.int i, .int k] => ret (.int (if k < i then k else i))
  | _ => stuck
theorem ok_min2 : OkC m c (fun xs H Q => ∃ i j, xs = [.int i, .int j] ∧ Q (.int (if j < i then j else i)) H) dMin2 := by
  intro B O W ρ j σ H Q ds vs rel rp out
  unfold dMin2 at out
  split at out <;> first | exact out.elim | skip
  obtain ⟨v, w, rfl, r, r2⟩ := rp.two
  cases (show v = .int _ from r)
  cases (show w = .int _ from r2)
  exact ⟨_, _, rfl, out.val rel rfl⟩
def dInt : List D → M D
  | [.int i] => ret (.int i)
  | [.bl k] => ret (.int (if k then 1 else 0))
  | _ => stuck
theorem ok_int : OkC m c (fun xs H Q => (∃ i, xs = [.int i] ∧ Q (.int i) H) ∨ ∃ k, xs = [.bl k] ∧ Q (.int (if k then 1 else 0)) H) dInt := by
  intro B O W ρ j σ H Q ds vs rel rp out
  unfold dInt at out
  split at out <;> first | exact out.elim | skip
  · obtain ⟨v, rfl, r⟩ := rp.one
    cases (show v = .int _ from r)
    exact .inl ⟨_, rfl, out.val rel rfl⟩
  · obtain ⟨v, rfl, r⟩ := rp.one
    cases (show v = .bl _ from r)
    exact .inr ⟨_, rfl, out.val rel rfl⟩
def dStr : List D → M D
  | [.int i] => need (i.natAbs.log2 < 1920) (ret (.str (toString i)))
  | [.str s] => ret (.str s)
  | _ => stuck
def rStrA : List V → Hp → VK → Prop := fun xs H Q => (∃ i, xs = [.int i] ∧ i.natAbs.log2 < 1920 ∧ Q (.str (toString i)) H) ∨ ∃ a, xs = [.str a] ∧ Q (.str a) H
theorem cr_strA : CallR X (.type "str") rStrA := CallR.or call_str_int SkE.call_str_str
theorem ok_str : OkC m c rStrA dStr := by
  intro B O W ρ j σ H Q ds vs rel rp out
  unfold dStr at out
  split at out <;> first | exact out.elim | skip
  · obtain ⟨v, rfl, r⟩ := rp.one
    cases (show v = .int _ from r)
    obtain ⟨h1, h2⟩ := need_out (r := .stk) out
    exact .inl ⟨_, rfl, h1, h2.val rel rfl⟩
  · obtain ⟨v, rfl, r⟩ := rp.one
    cases (show v = .str _ from r)
    exact .inr ⟨_, rfl, out.val rel rfl⟩
/-! ### lists of ints, of truth values -/
def sumI : List Int → Int
  | [] => 0
  | i :: r => i + sumI r
theorem sumI_eq : ∀ l : List Int, sumI l = l.sum
  | [] => rfl
  | i :: r => by rw [sumI, sumI_eq r, List.sum_cons]
def dSumL : List D → M D
  | [.lst ds] => onInts ds fun is => ret (.int (sumI is))
  | _ => stuck
theorem ok_sumL (hK : X.K = c.K) : OkC m c (rSum X.K) dSumL := by
  intro B O W ρ j σ H Q ds vs rel rp out
  unfold dSumL at out
  split at out <;> first | exact out.elim | skip
  obtain ⟨v, rfl, r⟩ := rp.one
  obtain ⟨a, vs, rfl, t, r⟩ := r.lst
  obtain ⟨is, _, rfl, o⟩ := onInts_out out r
  rw [sumI_eq] at o
  exact ⟨a, is, rfl, SqL.of t, o.val rel rfl⟩
def maxI : Int → List Int → Int
  | i, [] => i
  | i, k :: r => maxI (if k > i then k else i) r
def minI : Int → List Int → Int
  | i, [] => i
  | i, k :: r => minI (if k < i then k else i) r
theorem maxI_mem : ∀ (i : Int) (l : List Int), maxI i l ∈ i :: l
  | i, [] => List.mem_singleton.mpr rfl
  | i, k :: r => by
    rw [maxI]
    rcases List.mem_cons.mp (maxI_mem (if k > i then k else i) r) with h | h
    · rw [h]; split
      · exact List.mem_cons_of_mem _ List.mem_cons_self
      · exact List.mem_cons_self
    · exact List.mem_cons_of_mem _ (List.mem_cons_of_mem _ h)
theorem maxI_ge : ∀ (i : Int) (l : List Int), ∀ y ∈ i :: l, y ≤ maxI i l
  | i, [], y, h => by rw [List.mem_singleton.mp h]; exact Int.le_refl _
  | i, k :: r, y, h => by
    rw [maxI]
    have hr := maxI_ge (if k > i then k else i) r
    have h0 := hr _ List.mem_cons_self
    rcases List.mem_cons.mp h with h | h
    · subst h; split at h0 <;> (split; all_goals omega)
    · rcases List.mem_cons.mp h with h | h
      · subst h; split at h0 <;> (split; all_goals omega)
      · exact hr y (List.mem_cons_of_mem _ h)
theorem minI_mem : ∀ (i : Int) (l : List Int), minI i l ∈ i :: l
  | i, [] => List.mem_singleton.mpr rfl
  | i, k :: r => by
    rw [minI]
    rcases List.mem_cons.mp (minI_mem (if k < i then k else i) r) with h | h
    · rw [h]; split
      · exact List.mem_cons_of_mem _ List.mem_cons_self
      · exact List.mem_cons_self
    · exact List.mem_cons_of_mem _ (List.mem_cons_of_mem _ h)
theorem minI_le : ∀ (i : Int) (l : List Int), ∀ y ∈ i :: l, minI i l ≤ y
  | i, [], y, h => by rw [List.mem_singleton.mp h]; exact Int.le_refl _
  | i, k :: r, y, h => by
    rw [minI]
    have hr := minI_le (if k < i then k else i) r
    have h0 := hr _ List.mem_cons_self
    rcases List.mem_cons.mp h with h | h
    · subst h; split at h0 <;> (split; all_goals omega)
    · rcases List.mem_cons.mp h with h | h
      · subst h; split at h0 <;> (split; all_goals omega)
      · exact hr y (List.mem_cons_of_mem _ h)
theorem max_uniq {l : List Int} {m m' : Int} (h1 : m ∈ l) (h2 : ∀ y ∈ l, y ≤ m) (h3 : m' ∈ l) (h4 : ∀ y ∈ l, y ≤ m') : m = m' := Int.le_antisymm (h4 _ h1) (h2 _ h3)
theorem min_uniq {l : List Int} {m m' : Int} (h1 : m ∈ l) (h2 : ∀ y ∈ l, m ≤ y) (h3 : m' ∈ l) (h4 : ∀ y ∈ l, m' ≤ y) : m = m' := Int.le_antisymm (h2 _ h3) (h4 _ h1)
def dMaxL : List D → M D
  | [.lst ds] => onInts ds fun is => match is with
    | [] => stuck
    | i :: r => ret (.int (maxI i r))
  | _ => stuck
theorem ok_maxL (hK : X.K = c.K) : OkC m c (rMax X.K) dMaxL := by
  intro B O W ρ j σ H Q ds vs rel rp out
  unfold dMaxL at out
  split at out <;> first | exact out.elim | skip
  obtain ⟨v, rfl, r⟩ := rp.one
  obtain ⟨a, vs, rfl, t, r⟩ := r.lst
  obtain ⟨is, _, rfl, o⟩ := onInts_out out r
  cases is with
  | nil => exact o.elim
  | cons i is =>
    refine ⟨a, i :: is, rfl, SqL.of t, by simp, fun m' h1 h2 => ?_⟩
    rw [max_uniq h1 h2 (maxI_mem i is) (maxI_ge i is)]
    exact o.val rel rfl
def dMinL : List D → M D
  | [.lst ds] => onInts ds fun is => match is with
    | [] => stuck
    | i :: r => ret (.int (minI i r))
  | _ => stuck
theorem ok_minL (hK : X.K = c.K) : OkC m c (rMin X.K) dMinL := by
  intro B O W ρ j σ H Q ds vs rel rp out
  unfold dMinL at out
  split at out <;> first | exact out.elim | skip
  obtain ⟨v, rfl, r⟩ := rp.one
  obtain ⟨a, vs, rfl, t, r⟩ := r.lst
  obtain ⟨is, _, rfl, o⟩ := onInts_out out r
  cases is with
  | nil => exact o.elim
  | cons i is =>
    refine ⟨a, i :: is, rfl, SqL.of t, by simp, fun m' h1 h2 => ?_⟩
    rw [min_uniq h1 h2 (minI_mem i is) (minI_le i is)]
    exact o.val rel rfl
def dAll : List D → M D
  | [.lst ds] => onBools ds fun is => ret (.bl (is.all id))
  | _ => stuck
theorem ok_all (hK : X.K = c.K) : OkC m c (rAll X.K) dAll := by
  intro B O W ρ j σ H Q ds vs rel rp out
  unfold dAll at out
  split at out <;> first | exact out.elim | skip
  obtain ⟨v, rfl, r⟩ := rp.one
  obtain ⟨a, vs, rfl, t, r⟩ := r.lst
  obtain ⟨is, _, rfl, o⟩ := onBools_out out r
  exact ⟨a, is, rfl, SqL.of t, o.val rel rfl⟩
def dAny : List D → M D
  | [.lst ds] => onBools ds fun is => ret (.bl (is.any id))
  | _ => stuck
theorem ok_any (hK : X.K = c.K) : OkC m c (rAny X.K) dAny := by
  intro B O W ρ j σ H Q ds vs rel rp out
  unfold dAny at out
  split at out <;> first | exact out.elim | skip
  obtain ⟨v, rfl, r⟩ := rp.one
  obtain ⟨a, vs, rfl, t, r⟩ := r.lst
  obtain ⟨is, _, rfl, o⟩ := onBools_out out r
  exact ⟨a, is, rfl, SqL.of t, o.val rel rfl⟩
/-! ### sorted -/
def insI (x : Int) : List Int → List Int
  | [] => [x]
  | y :: r => if x ≤ y then x :: y :: r else y :: insI x r
def srtI : List Int → List Int
  | [] => []
  | x :: r => insI x (srtI r)
theorem insI_perm (x : Int) : ∀ l : List Int, (insI x l).Perm (x :: l)
  | [] => List.Perm.refl _
  | y :: r => by
    rw [insI]
    split
    · exact List.Perm.refl _
    · exact ((insI_perm x r).cons y).trans (List.Perm.swap x y r)
theorem srtI_perm : ∀ l : List Int, (srtI l).Perm l
  | [] => List.Perm.refl _
  | x :: r => (insI_perm x (srtI r)).trans ((srtI_perm r).cons x)
theorem insI_sorted (x : Int) : ∀ l : List Int, l.Pairwise (· ≤ ·) → (insI x l).Pairwise (· ≤ ·)
  | [], _ => List.pairwise_singleton _ _
  | y :: r, h => by
    rw [insI]
    obtain ⟨h1, h2⟩ := List.pairwise_cons.mp h
    split
    · rename_i q
      exact List.pairwise_cons.mpr ⟨fun z hz => by
        rcases List.mem_cons.mp hz with e | hz
        · exact e ▸ q
        · exact Int.le_trans q (h1 z hz), h⟩
    · rename_i q
      refine List.pairwise_cons.mpr ⟨fun z hz => ?_, insI_sorted x r h2⟩
      rcases List.mem_cons.mp ((insI_perm x r).mem_iff.mp hz) with e | hz
      · rw [e]; omega
      · exact h1 z hz
theorem srtI_sorted : ∀ l : List Int, (srtI l).Pairwise (· ≤ ·)
  | [] => List.Pairwise.nil
  | x :: r => insI_sorted x _ (srtI_sorted r)
theorem perm_sorted_eq : ∀ {a b : List Int}, a.Perm b → a.Pairwise (· ≤ ·) → b.Pairwise (· ≤ ·) → a = b
  | [], b, p, _, _ => (List.nil_perm.mp p).symm
  | x :: a, [], p, _, _ => nomatch List.perm_nil.mp p
  | x :: a, y :: b, p, h1, h2 => by
    obtain ⟨q1, q2⟩ := List.pairwise_cons.mp h1
    obtain ⟨q3, q4⟩ := List.pairwise_cons.mp h2
    have e : x = y := by
      have m1 : x ∈ y :: b := p.mem_iff.mp List.mem_cons_self
      have m2 : y ∈ x :: a := p.mem_iff.mpr List.mem_cons_self
      rcases List.mem_cons.mp m1 with e | m1
      · exact e
      · rcases List.mem_cons.mp m2 with e | m2
        · exact e.symm
        · exact Int.le_antisymm (q1 y m2) (q3 x m1)
    subst e
    rw [perm_sorted_eq (List.Perm.cons_inv p) q2 q4]
def dSortI : List D → M D
  | [.lst ds] => onInts ds fun is => ret (.lst ((srtI is).map .int))
  | _ => stuck
theorem ok_sortI (hK : X.K = c.K) : OkC m c (rSortedI X.K) dSortI := by
  intro B O W ρ j σ H Q ds vs rel rp out
  unfold dSortI at out
  split at out <;> first | exact out.elim | skip
  obtain ⟨v, rfl, r⟩ := rp.one
  obtain ⟨a, vs, rfl, t, r⟩ := r.lst
  obtain ⟨is, _, rfl, o⟩ := onInts_out out r
  refine ⟨a, is, rfl, SqL.of t, fun ns p h1 h2 hp => ?_⟩
  rw [perm_sorted_eq (h1.trans (srtI_perm is).symm) h2 (srtI_sorted is)]
  exact Out.newL rel o (Reps.ofInts _) hp
/-! ### tuple, list, divmod -/
def dTupF : List D → M D
  | [.lst ds] => ret (.tup ds)
  | [.tup ds] => ret (.tup ds)
  | _ => stuck
theorem RepsB.rep1 {ds : List D} {v : V} (h : RepB c L H (.tup ds) v) : Rep c L H (.tup ds) v := h
theorem ok_tupF (hK : X.K = c.K) : OkC m c (fun xs H Q => ∃ p ys, xs = [.ref p] ∧ ((SqL X.K H p ys ∧ NewT H ys Q) ∨ (SqT X.K H p ys ∧ Q (.ref p) H))) dTupF := by
  intro B O W ρ j σ H Q ds vs rel rp out
  unfold dTupF at out
  split at out <;> first | exact out.elim | skip
  · obtain ⟨v, rfl, r⟩ := rp.one
    obtain ⟨a, vs, rfl, t, r⟩ := r.lst
    exact ⟨a, vs, rfl, .inl ⟨SqL.of t, Out.newT rel out r⟩⟩
  · obtain ⟨v, rfl, r⟩ := rp.one
    obtain ⟨a, vs, rfl, t, r'⟩ := (show Rep c (O ++ B) H (.tup _) v from r)
    exact ⟨a, vs, rfl, .inr ⟨hK ▸ t.sq, out.val rel ⟨a, vs, rfl, t, r'⟩⟩⟩
def dLstF : List D → M D
  | [.lst ds] => ret (.lst ds)
  | [.tup ds] => ret (.lst ds)
  | _ => stuck
theorem ok_lstF (hK : X.K = c.K) : OkC m c (fun xs H Q => ∃ p ys, xs = [.ref p] ∧ (SqL X.K H p ys ∨ SqT X.K H p ys) ∧ ∀ l, H l = none → Q (.ref l) (upd H l (.lst ys))) dLstF := by
  intro B O W ρ j σ H Q ds vs rel rp out
  unfold dLstF at out
  split at out <;> first | exact out.elim | skip
  · obtain ⟨v, rfl, r⟩ := rp.one
    obtain ⟨a, vs, rfl, t, r⟩ := r.lst
    exact ⟨a, vs, rfl, .inl (SqL.of t), fun p hp => Out.newL rel out r hp⟩
  · obtain ⟨v, rfl, r⟩ := rp.one
    obtain ⟨a, vs, rfl, t, r⟩ := r.tup
    exact ⟨a, vs, rfl, .inr (hK ▸ t), fun p hp => Out.newL rel out r hp⟩
def dDivmod : List D → M D
  | [.int i, .int k] => need (0 < k ∧ k < 1073741824) (ret (.tup [.int (i / k), .int (i % k)]))
  | _ => stuck
theorem ok_divmod : OkC m c (fun xs H Q => ∃ i j, xs = [.int i, .int j] ∧ CDiv i j ∧ NewT H [.int (i / j), .int (i % j)] Q) dDivmod := by
  intro B O W ρ j σ H Q ds vs rel rp out
  unfold dDivmod at out
  split at out <;> first | exact out.elim | skip
  obtain ⟨v, w, rfl, r, r2⟩ := rp.two
  cases (show v = .int _ from r)
  cases (show w = .int _ from r2)
  obtain ⟨h1, h2⟩ := need_out (r := .stk) out
  exact ⟨_, _, rfl, h1, Out.newT rel h2 (Reps.ofInts [_, _])⟩
/-! ### isinstance -/
inductive Ty where
  | non | bool | int | str | tup | lst | dct
  deriving DecidableEq
def Ty.name : Ty → String
  | .non => "NoneType"
  | .bool => "bool"
  | .int => "int"
  | .str => "str"
  | .tup => "tuple"
  | .lst => "list"
  | .dct => "dict"
def isTy : Ty → Ty → Bool
  | .bool, .int => true
  | a, b => decide (a = b)
theorem isTy_ok : ∀ a b : Ty, kitB a.name b.name = some (isTy a b) := by intro a b; cases a <;> cases b <;> decide +kernel
def tyOf : D → Option Ty
  | .non => some .non
  | .bl _ => some .bool
  | .int _ => some .int
  | .str _ => some .str
  | .tup _ => some .tup
  | .lst _ => some .lst
  | .dK _ _ => some .dct
  | _ => none
theorem tyX_of {K : PySem.W.Frag} (hK : K = c.K) {d : D} {v : V} {t : Ty} (r : RepB c L H d v) (h : tyOf d = some t) : TyX K H v (.type t.name) := by
  cases d <;> cases h
  · cases (show v = .non from r); exact .base .non
  · cases (show v = .bl _ from r); exact .base (.bl _)
  · cases (show v = .int _ from r); exact .base (.int _)
  · cases (show v = .str _ from r); exact .base (.str _)
  · obtain ⟨a, vs, rfl, t, _⟩ := r
    rcases t with ⟨_, o, t, _⟩ | ⟨o, its, n, h1, _, h2, _⟩
    · exact .fTuple t
    · exact .kTuple (hK ▸ h1) h2
  · obtain ⟨a, vs, rfl, _, t, _⟩ := r; exact .base (.lst t)
  · obtain ⟨a, vs, rfl, _, t, _⟩ := r; exact .base (.dK t)
/-- what the written part says of an own class, as the class of a value -/
structure InsK (c : RC) (k : Nat) : Prop where
  cl : Cls c.K (c.cls k)
  ha : PySem.W.findIn c.K (.ref (c.cls k)) "__class__" = some (some (.builtin "object.__class__"))
  hn : PySem.W.specialIn c.K (.builtin "object.__class__") "__get__" = some (some (.builtin "getset_descriptor.__get__"))
  htk : PySem.W.takesIn c.K (.builtin "object.__class__") = some true
  hm : PySem.W.mroIn c.K (c.cls k) (.type "object") = some true
theorem InsK.ty {K : PySem.W.Frag} (hK : K = c.K) {k : Nat} {ns : List Str} {ds : List D} {v : V} (i : InsK c k) (r : RepB c L H (.ins k ns ds) v) : TyX K H v (.ref (c.cls k)) := by
  obtain ⟨a, dx, vs, rfl, _, t, _⟩ := r
  subst hK
  exact .base (.ins t i.cl i.ha i.hn i.htk i.hm)
/-- isinstance(e, T), T a built-in type; known: the own classes whose instances may come -/
def dIsB (T : Ty) (known : List Nat) (d : D) : M D := match tyOf d with
  | some t => ret (.bl (isTy t T))
  | none => match d with
    | .ins k _ _ => if k ∈ known then ret (.bl false) else stuck
    | _ => stuck
def NotB (c : RC) (T : Ty) (k : Nat) : Prop := InsK c k ∧ PySem.W.kitOne c.K (.ref (c.cls k)) (.type T.name) = some false
theorem me_isB {p p2 : Pos} {known : List Nat} {x : Str} (T : Ty) (hK : X.K = c.K) (hm : X.mg "isinstance" = none) (hmT : X.mg x = none) (hk : ∀ k ∈ known, NotB c T k) (h : ME X .look c B W e me) (hv : bootBuiltins x = some (.type T.name)) (hg : Gl X "isinstance" := by rfl) (hgT : Gl X x := by rfl)
    (hn : x ≠ "__name__" := by decide) (hd : (x == ("__debug__" : Str)) = false := by decide)
    (h1 : starEach [e, .Name x p2] X.env = (false, eval e X.env) :: starEach [.Name x p2] X.env := by rfl) (h2 : starEach [.Name x p2] X.env = (false, eval (.Name x p2) X.env) :: starEach [] X.env := by rfl)
    (hpl : ((backTo pos (starEach [.Name x p2] X.env)).any fun x => x.1) = false := by rfl) :
    ME X m c B W (.Call (.Name "isinstance" p) [e, .Name x p2] [] pos) (mUn (dIsB T known) me) :=
  me_mono (pe_callB call_isi hg hm PyProof.Rows.Boot.«isinstance» (pa_cons h (pa_cons (pe_bltn (v := .ty T.name) hgT hmT hv rfl hn hd) pa_nil h2) h1) (by decide) (by decide) h1 hpl)
    fun σ H Q ⟨O, ρ, j, rel, out⟩ => rd_bnd rel out fun d j1 v H1 rel1 e1 rp out1 => by
      unfold dIsB at out1
      cases q : tyOf d with
      | some t =>
        rw [q] at out1
        exact ⟨v, .ty T.name, _, _, _, rfl, .ty _, tyX_of hK rp q, kit_ty (isTy_ok t T), out1.val rel1 rfl⟩
      | none =>
        rw [q] at out1
        cases d <;> first | exact out1.elim | (cases q; done) | skip
        rename_i k ns ds
        dsimp only at out1
        by_cases z : k ∈ known
        · rw [if_pos z] at out1
          obtain ⟨i, ne⟩ := hk k z
          exact ⟨v, .ty T.name, _, _, _, rfl, .ty _, i.ty hK rp, hK ▸ ne, out1.val rel1 rfl⟩
        · rw [if_neg z] at out1; exact out1.elim
/-- isinstance(e, C), C an own class -/
def dIsC (k0 : Nat) (known : List Nat) (d : D) : M D := match tyOf d with
  | some t => ret (.bl false)
  | none => match d with
    | .ins k _ _ => if k ∈ known then ret (.bl (k == k0)) else stuck
    | _ => stuck
structure ClsI (c : RC) (k0 : Nat) (known : List Nat) : Prop where
  ty : ∀ t : Ty, PySem.W.kitOne c.K (.type t.name) (.ref (c.cls k0)) = some false
  ins : ∀ k ∈ known, InsK c k ∧ PySem.W.kitOne c.K (.ref (c.cls k)) (.ref (c.cls k0)) = some (k == k0)
theorem me_isC {p p2 : Pos} {known : List Nat} {x : Str} {k0 : Nat} (hK : X.K = c.K) (hm : X.mg "isinstance" = none) (hmC : X.mg x = some (.ref (c.cls k0))) (hk : ClsI c k0 known) (h : ME X .look c B W e me) (hg : Gl X "isinstance" := by rfl) (hgC : Gl X x := by rfl)
    (hd : (x == ("__debug__" : Str)) = false := by decide)
    (h1 : starEach [e, .Name x p2] X.env = (false, eval e X.env) :: starEach [.Name x p2] X.env := by rfl) (h2 : starEach [.Name x p2] X.env = (false, eval (.Name x p2) X.env) :: starEach [] X.env := by rfl)
    (hpl : ((backTo pos (starEach [.Name x p2] X.env)).any fun x => x.1) = false := by rfl) :
    ME X m c B W (.Call (.Name "isinstance" p) [e, .Name x p2] [] pos) (mUn (dIsC k0 known) me) :=
  me_mono (pe_callB call_isi hg hm PyProof.Rows.Boot.«isinstance» (pa_cons h (pa_cons (pe_glob hgC hmC (v := .ref (c.cls k0)) rfl hd) pa_nil h2) h1) (by decide) (by decide) h1 hpl)
    fun σ H Q ⟨O, ρ, j, rel, out⟩ => rd_bnd rel out fun d j1 v H1 rel1 e1 rp out1 => by
      unfold dIsC at out1
      cases q : tyOf d with
      | some t =>
        rw [q] at out1
        exact ⟨v, .ref _, _, _, _, rfl, .own _, tyX_of hK rp q, hK ▸ hk.ty t, out1.val rel1 rfl⟩
      | none =>
        rw [q] at out1
        cases d <;> first | exact out1.elim | (cases q; done) | skip
        rename_i k ns ds
        dsimp only at out1
        by_cases z : k ∈ known
        · rw [if_pos z] at out1
          obtain ⟨i, ne⟩ := hk.ins k z
          exact ⟨v, .ref _, _, _, _, rfl, .own _, i.ty hK rp, hK ▸ ne, out1.val rel1 rfl⟩
        · rw [if_neg z] at out1; exact out1.elim
end
end Mir
set_option Elab.async false
set_option linter.all false
set_option maxRecDepth 100000
set_option maxHeartbeats 4000000
/-! Mir10: subscripts, slices, in by mirrors. -/
namespace Mir
open PySem L2
section
variable {X : Cx} {m : Md} {c : RC} {B O O' L : List Addr} {W : WX} {e a b : Expr} {me ma mb : Env → M D} {pos : Pos} {σ : St} {H H' : Hp} {Q : VK} {ρ : Env} {j : List Int} {D' : Ends} {st : Stmt} {sts : List Stmt}
/-! ### dicts -/
def findK : List Key → List D → Key → Option D
  | k :: ks, d :: ds, x => if k = x then some d else findK ks ds x
  | _, _, _ => none
def keyOf : D → Option Key
  | .int i => some (.inl i)
  | .str s => some (.inr s)
  | _ => none
theorem RepB.key {d : D} {v : V} {k : Key} (r : RepB c L H d v) (h : keyOf d = some k) : v = kV k := by
  cases d <;> cases h <;> exact r
theorem Reps.findK : ∀ {ks : List Key} {ds : List D} {vs : List V} {x : Key}, ks.length = ds.length → Reps c L H ds vs →
    (∃ d v, Mir.findK ks ds x = some d ∧ valV (ks.zip vs) x = some v ∧ Rep c L H d v) ∨ (Mir.findK ks ds x = none ∧ valV (ks.zip vs) x = none)
  | [], [], _, x, _, h => by cases (show _ = [] from h); exact .inr ⟨rfl, rfl⟩
  | k :: ks, d :: ds, _, x, hl, h => by
    obtain ⟨v, r, rfl, h1, h2⟩ := h
    by_cases e : k = x
    · subst e
      refine .inl ⟨d, v, ?_, ?_, h1⟩
      · unfold Mir.findK; rw [if_pos rfl]
      · rw [List.zip_cons_cons]
        simp [valV]
    · rcases Reps.findK (x := x) (by simpa using hl) h2 with ⟨d', v', q1, q2, q3⟩ | ⟨q1, q2⟩
      · refine .inl ⟨d', v', ?_, ?_, q3⟩
        · unfold Mir.findK; rw [if_neg e]; exact q1
        · rw [List.zip_cons_cons]; simp [valV, e]; simpa [valV] using q2
      · refine .inr ⟨?_, ?_⟩
        · unfold Mir.findK; rw [if_neg e]; exact q1
        · rw [List.zip_cons_cons]; simp [valV, e]; simpa [valV] using q2
/-! ### a[i] -/
def atD (ds : List D) (i : Int) : M D := match ixN ds.length i with
  | some k => match ds[k]? with
    | some d => ret d
    | none => stuck
  | none => stuck
def strAt (s : Str) (i : Int) : M D := match atI s.cps.toList i with
  | some x => ret (.str ⟨#[x]⟩)
  | none => stuck
def getK (ks : List Key) (ds : List D) (y : D) : M D := match keyOf y with
  | some k => match findK ks ds k with
    | some d => ret d
    | none => stuck
  | none => stuck
theorem Reps.scr : ∀ (ns : List Int), Reps c L H (ns.map D.int) (ns.map V.int)
  | [] => rfl
  | n :: ns => ⟨_, _, rfl, rfl, Reps.scr ns⟩
def dIx : D → D → M D
  | .lst ds, .int i => atD ds i
  | .tup ds, .int i => atD ds i
  | .str s, .int i => need (s.length ≤ LIM) (strAt s i)
  | .dK ks ds, y => getK ks ds y
  | .scr ns, .int i => atD (ns.map .int) i
  | _, _ => stuck
theorem atD_out {ds : List D} {vs : List V} {i : Int} (rel : Rel c B O ρ j σ H) (out : Out .keep c (O ++ B) W σ H Q (atD ds i j)) (r : Reps c (O ++ B) H ds vs) : ∃ v, atI vs i = some v ∧ Q v H := by
  unfold atD at out
  cases q : ixN ds.length i with
  | none => rw [q] at out; exact out.elim
  | some k =>
    rw [q] at out
    dsimp only at out
    cases z : ds[k]? with
    | none => rw [z] at out; exact out.elim
    | some d =>
      rw [z] at out
      obtain ⟨v, h1, h2⟩ := r.get z
      exact ⟨v, by unfold atI; rw [← r.len, q]; exact h1, out.kept rel h2⟩
theorem PE.or {t u : TE} (h : PE X e t) (h' : PE X e u) : PE X e fun σ H Q => t σ H Q ∨ u σ H Q := ⟨fun pins s σ H Q I q => q.elim (h.run pins s σ H Q I) (h'.run pins s σ H Q I)⟩
def isDK : D → Bool
  | .dK _ _ => true
  | _ => false
/-- as rd_bnd, with the mirror's end -/
theorem rd_bndE {m m' : Md} {Q P : VK} {k : D → M D} (rel : Rel c B O ρ j σ H) (out : Out m c (O ++ B) W σ H Q (bnd (ma ρ) k j))
    (hP : ∀ d j1 v H1, ma ρ j = .ok d j1 → Rel c B O ρ j1 σ H1 → Ex c H H1 → RepM m' c (O ++ B) H H1 d v → Out m c (O ++ B) W σ H1 Q (k d j1) → P v H1) : rd m' c B W ma σ H P := by
  refine ⟨O, ρ, j, rel, ?_⟩
  unfold bnd at out
  cases q : ma ρ j with
  | ok d j1 =>
    rw [q] at out
    exact fun v H1 e hj rp => hP d j1 v H1 q (rel.ex e hj) e rp (out.ex e rel.jar hj)
  | exc k g j' => rw [q] at out; exact out
  | stk => rw [q] at out; exact out.elim
theorem RepB.dct {ks : List Key} {ds : List D} {v : V} (h : RepB c L H (.dK ks ds) v) : ∃ a vs, v = .ref a ∧ H a = some (.dK (ks.zip vs)) ∧ ks.length = ds.length ∧ Reps c L H ds vs := let ⟨a, vs, e1, _, t, l, r⟩ := h; ⟨a, vs, e1, t, l, r⟩
theorem me_ix (hK : X.K = c.K) (hu : X.A.units + 64 < cLine) (ha : ME X .look c B W a ma) (hb : ME X .look c B W b mb) (hs : PlainIx b := by intro _ _; rfl) : ME X .keep c B W (.Subscript a b pos) (mBin dIx ma mb) :=
  me_mono (PE.or (pe_ix ix_seq ha hb hs) (pe_dget (by omega) ha hb hs)) fun σ H Q ⟨O, ρ, j, rel, out⟩ => by
    by_cases z : ∃ ks ds j', ma ρ j = .ok (.dK ks ds) j'
    · obtain ⟨ks, ds, j', z⟩ := z
      refine .inr (rd_bndE (m' := .look) (k := fun x => bnd (mb ρ) fun y => dIx x y) rel out fun x j1 v H1 q1 rel1 e1 rp1 out1 => ?_)
      rw [z] at q1; cases q1
      refine rd_bnd (m' := .look) (k := fun y => dIx (.dK ks ds) y) rel1 out1 fun y j2 w H2 rel2 e2 rp2 out2 => ?_
      obtain ⟨a, vs, rfl, t, l, r⟩ := RepB.dct (RepM.ex (m := .look) (H0 := H) rel.jL e2 rp1)
      have out2 : Out .keep c (O ++ B) W σ H2 Q (getK ks ds y j2) := by cases y <;> exact out2
      unfold getK at out2
      cases q3 : keyOf y with
      | none => rw [q3] at out2; exact out2.elim
      | some k =>
        rw [q3] at out2
        dsimp only at out2
        cases RepB.key rp2 q3
        rcases Reps.findK (x := k) l r with ⟨d, v, h1, h2, h3⟩ | ⟨h1, h2⟩
        · rw [h1] at out2
          exact ⟨a, v, rfl, h2 ▸ DGet.k t, out2.kept rel2 h3⟩
        · rw [h1] at out2; exact out2.elim
    · refine .inl (rd_bndE (m' := .look) (k := fun x => bnd (mb ρ) fun y => dIx x y) rel out fun x j1 v H1 q1 rel1 e1 rp1 out1 => ?_)
      refine rd_bnd (m' := .look) (k := fun y => dIx x y) rel1 out1 fun y j2 w H2 rel2 e2 rp2 out2 => ?_
      have rp1 := RepM.ex (m := .look) (H0 := H) rel.jL e2 rp1
      cases x with
      | lst ds =>
        cases y <;> first | exact out2.elim | skip
        obtain ⟨a, vs, rfl, t, r⟩ := rp1.lst
        cases (show w = .int _ from rp2)
        obtain ⟨v, h1, h2⟩ := atD_out rel2 out2 r
        exact .inl ⟨a, vs, _, v, rfl, rfl, SqL.of t, h1, h2⟩
      | tup ds =>
        cases y <;> first | exact out2.elim | skip
        obtain ⟨a, vs, rfl, t, r⟩ := rp1.tup
        cases (show w = .int _ from rp2)
        obtain ⟨v, h1, h2⟩ := atD_out rel2 out2 r
        exact .inr (.inl ⟨a, vs, _, v, rfl, rfl, hK ▸ t.sq, h1, h2⟩)
      | str s =>
        cases y <;> first | exact out2.elim | skip
        rename_i i
        cases rp1.str
        cases (show w = .int _ from rp2)
        obtain ⟨h1, h2⟩ := need_out (r := .stk) out2
        unfold strAt at h2
        cases q : atI s.cps.toList i with
        | some x =>
          rw [q] at h2
          exact .inr (.inr ⟨_, _, x, rfl, rfl, lim_le h1, q, h2.val rel2 rfl⟩)
        | none => rw [q] at h2; exact h2.elim
      | dK ks ds => exact (z ⟨_, _, _, q1⟩).elim
      | scr ns =>
        cases y <;> first | exact out2.elim | skip
        obtain ⟨a, rfl, t⟩ := rp1
        cases (show w = .int _ from rp2)
        obtain ⟨v, h1, h2⟩ := atD_out rel2 out2 (Reps.scr ns)
        exact .inl ⟨a, _, _, v, rfl, rfl, hK ▸ t.sq, h1, h2⟩
      | _ => cases y <;> exact out2.elim
/-! ### a[lo:hi] -/
def OutO (c : RC) (L : List Addr) (W : WX) (σ : St) (H : Hp) (Q : Option Int → Hp → Prop) : Res (Option Int) → Prop
  | .ok o j => ∀ H', Ex c H H' → JarAt c H' j → Q o H'
  | .exc k g j => Out .keep c L W σ H (fun _ _ => True) (.exc k g j)
  | .stk => False
def rdO (c : RC) (B : List Addr) (W : WX) (mo : Env → M (Option Int)) : TO := fun σ H Q => ∃ O ρ j, Rel c B O ρ j σ H ∧ OutO c (O ++ B) W σ H Q (mo ρ j)
abbrev MO (X : Cx) (c : RC) (B : List Addr) (W : WX) (e : Option Expr) (mo : Env → M (Option Int)) : Prop := PO X e (rdO c B W mo)
def mNo : Env → M (Option Int) := fun _ => ret none
def mYesI (me : Env → M D) : Env → M (Option Int) := fun ρ => bnd (me ρ) fun d => match d with
  | .int i => ret (some i)
  | _ => stuck
theorem po_mono {eo : Option Expr} {t : TO} {mo : Env → M (Option Int)} (h : PO X eo t) (hh : ∀ σ H Q, rdO c B W mo σ H Q → t σ H Q) : MO X c B W eo mo := ⟨fun pins s σ H Q I hq => h.run pins s σ H Q I (hh σ H Q hq)⟩
theorem mo_none : MO X c B W none mNo := po_mono po_none fun σ H Q ⟨O, ρ, j, rel, out⟩ => out H ExS.refl rel.jar
theorem OutO.ex {H1 : Hp} {Q : Option Int → Hp → Prop} {j j1 : List Int} (e : Ex c H H1) (hj : JarAt c H j) (hj1 : JarAt c H1 j1) {r : Res (Option Int)} (h : OutO c L W σ H Q r) : OutO c L W σ H1 Q r := by
  cases r with
  | ok d j => exact fun H' e' hj => h H' (e.trans e') hj
  | exc k g j' => exact Out.ex (m := .keep) (Q := fun _ _ => True) e hj hj1 (show Out .keep c L W σ H (fun _ _ => True) (.exc k g j') from h)
  | stk => exact h
theorem mo_some (h : ME X .look c B W e me) : MO X c B W (some e) (mYesI me) := po_mono (po_some h) fun σ H Q ⟨O, ρ, j, rel, out⟩ => by
  refine ⟨O, ρ, j, rel, ?_⟩
  unfold mYesI bnd at out
  cases q : me ρ j with
  | ok d j1 =>
    rw [q] at out
    intro v H1 e1 hj1 rp
    cases d <;> first | exact out.elim | skip
    cases (show v = .int _ from rp)
    exact ⟨_, rfl, out H1 e1 hj1⟩
  | exc k g j' => rw [q] at out; exact out
  | stk => rw [q] at out; exact out.elim
theorem rdO_bnd {P : Option Int → Hp → Prop} {mo : Env → M (Option Int)} {k : Option Int → M D} (rel : Rel c B O ρ j σ H) (out : Out m c (O ++ B) W σ H Q (bnd (mo ρ) k j))
    (hP : ∀ b j1 H1, Rel c B O ρ j1 σ H1 → Ex c H H1 → Out m c (O ++ B) W σ H1 Q (k b j1) → P b H1) : rdO c B W mo σ H P := by
  refine ⟨O, ρ, j, rel, ?_⟩
  unfold bnd at out
  cases q : mo ρ j with
  | ok d j1 =>
    rw [q] at out
    exact fun H1 e hj => hP d j1 H1 (rel.ex e hj) e (out.ex e rel.jar hj)
  | exc k g j' => rw [q] at out; exact out
  | stk => rw [q] at out; exact out.elim
def cutD (ds : List D) (lo hi : Option Int) : List D := (ds.drop (HT.sIx ds.length 0 lo)).take (HT.sIx ds.length ds.length hi - HT.sIx ds.length 0 lo)
theorem Reps.cut {ds : List D} {vs : List V} {lo hi : Option Int} (r : Reps c L H ds vs) : Reps c L H (cutD ds lo hi) (cutV vs lo hi) := by
  unfold cutD cutV
  rw [← r.len]
  exact Reps.take _ (Reps.drop _ r)
def dSl (x : D) (lo hi : Option Int) : M D := match x with
  | .lst ds => ret (.lst (cutD ds lo hi))
  | .scr ns => ret (.lst (cutD (ns.map .int) lo hi))
  | .tup ds => ret (.tup (cutD ds lo hi))
  | .str s => need (s.length ≤ LIM) (ret (.str (cutS s lo hi)))
  | _ => stuck
def rSlAll (K : PySem.W.Frag) : V → Option Int → Option Int → Hp → VK → Prop := fun x lo hi H Q => rSlL K x lo hi H Q ∨ (rSlF K x lo hi H Q ∨ rSlS x lo hi H Q)
theorem sl_all : L2.SlR X (rSlAll X.K) := L2.SlR.or sl_list (L2.SlR.or sl_tupF sl_str)
def mSl (me : Env → M D) (ml mh : Env → M (Option Int)) : Env → M D := fun ρ => bnd (me ρ) fun x => bnd (ml ρ) fun lo => bnd (mh ρ) fun hi => dSl x lo hi
theorem me_slice {lo hi : Option Expr} {p2 : Pos} {ml mh : Env → M (Option Int)} (hK : X.K = c.K) (h : ME X .look c B W e me) (hl : MO X c B W lo ml) (hh : MO X c B W hi mh) : ME X m c B W (.Subscript e (.Slice lo hi none p2) pos) (mSl me ml mh) :=
  me_mono (pe_slice sl_all h hl hh) fun σ H Q ⟨O, ρ, j, rel, out⟩ => by
    refine rd_bnd (m' := .look) (k := fun x => bnd (ml ρ) fun lo => bnd (mh ρ) fun hi => dSl x lo hi) rel out fun x j1 v H1 rel1 e1 rp1 out1 => ?_
    refine rdO_bnd (k := fun lo => bnd (mh ρ) fun hi => dSl x lo hi) rel1 out1 fun l j2 H2 rel2 e2 out2 => ?_
    refine rdO_bnd (k := fun hi => dSl x l hi) rel2 out2 fun u j3 H3 rel3 e3 out3 => ?_
    have rp3 := RepM.ex (m := .look) (H0 := H) rel.jL e3 (RepM.ex (m := .look) (H0 := H) rel.jL e2 rp1)
    unfold dSl at out3
    split at out3 <;> first | exact out3.elim | skip
    · obtain ⟨a, vs, rfl, t, r⟩ := rp3.lst
      exact .inl ⟨a, vs, rfl, SqL.of t, fun p hp => Out.newL rel3 out3 r.cut hp⟩
    · obtain ⟨a, rfl, t⟩ := rp3
      exact .inl ⟨a, _, rfl, hK ▸ t.sq, fun p hp => Out.newL rel3 out3 (Reps.scr _).cut hp⟩
    · obtain ⟨a, vs, rfl, t, r⟩ := rp3.tup
      refine .inr (.inl ⟨a, vs, rfl, hK ▸ t.sq, fun z => ?_, fun _ => Out.newT rel3 out3 r.cut⟩)
      have e : cutD ‹List D› l u = ‹List D› := by
        unfold cutD
        rw [r.len, z.1, z.2, List.drop_zero, Nat.sub_zero, ← r.len, List.take_length]
      rw [e] at out3
      exact out3.val rel3 ⟨a, vs, rfl, t, r⟩
    · cases rp3.str
      obtain ⟨h1, h2⟩ := need_out (r := .stk) out3
      exact .inr (.inr ⟨_, rfl, lim_le h1, h2.val rel3 rfl⟩)
/-! ### in -/
def flatsD : List D → Option (List V)
  | [] => some []
  | d :: ds => match flatD d, flatsD ds with
    | some v, some vs => some (v :: vs)
    | _, _ => none
theorem flatD_flat {d : D} {v : V} (h : flatD d = some v) : flatV v = true := by cases d <;> cases h <;> rfl
theorem Rep.flat {d : D} {v w : V} (h : Rep c L H d v) (e : flatD d = some w) : v = w := by cases d <;> cases e <;> exact h
theorem Reps.flats : ∀ {ds : List D} {vs ws : List V}, Reps c L H ds vs → flatsD ds = some ws → vs = ws ∧ ws.all flatV = true
  | [], _, _, h, e => by cases e; exact ⟨h, rfl⟩
  | d :: ds, _, _, h, e => by
    obtain ⟨v, r, rfl, h1, h2⟩ := h
    unfold flatsD at e
    cases q1 : flatD d with
    | none => rw [q1] at e; cases e
    | some v' =>
      cases q2 : flatsD ds with
      | none => rw [q1, q2] at e; cases e
      | some vs' =>
        rw [q1, q2] at e; cases e
        obtain ⟨e1, e2⟩ := Reps.flats h2 q2
        rw [Rep.flat h1 q1, e1]
        exact ⟨rfl, by rw [List.all_cons, e2, flatD_flat q1]; rfl⟩
/-- whether the flat value is in the flat sequence, or (a list alone) by nested equality -/
def inDeep (k : Bool → M D) (lst : Bool) (x : D) (ds : List D) : M D := match lst, toPD x, toPDs ds with
  | true, some p, some ps => need (SeqAt.shaped p = true ∧ SeqAt.shaped (.list ps) = true) (k (ps.any fun z => PyData.eqv z p))
  | _, _, _ => stuck
def inSeq (k : Bool → M D) (lst : Bool) (x : D) (ds : List D) : M D := match flatD x, flatsD ds with
  | some v, some vs => k (inV v vs)
  | _, _ => inDeep k lst x ds
def oneSign (s : Str) : Option Nat := match s.cps.toList with
  | [ch] => some ch
  | _ => none
theorem oneSign_eq {s : Str} {ch : Nat} (h : oneSign s = some ch) : s = ⟨#[ch]⟩ := by
  obtain ⟨⟨l⟩⟩ := s
  unfold oneSign at h
  match l, h with
  | [a], h => cases h; rfl
def inStr (k : Bool → M D) (s z : Str) : M D := match oneSign s with
  | some ch => k (decide (ch ∈ z.cps.toList))
  | none => stuck
def dInW (k : Bool → M D) (x y : D) : M D := match x, y with
  | x, .lst ds => inSeq k true x ds
  | x, .tup ds => inSeq k false x ds
  | .str s, .str z => inStr k s z
  | _, _ => stuck
def dIn : D → D → M D := dInW fun b => ret (.bl b)
def dNotIn : D → D → M D := dInW fun b => ret (.bl (!b))
def rInA (K : PySem.W.Frag) : R2 := fun x y H Q => rIn K false x y H Q ∨ (rInD K x y H Q ∨ ∃ (c : Nat) (z : Str), x = .str ⟨#[c]⟩ ∧ y = .str z ∧ Q (.bl (decide (c ∈ z.cps.toList))) H)
def rNotInA (K : PySem.W.Frag) : R2 := fun x y H Q => rIn K true x y H Q ∨ (rNotInD K x y H Q ∨ ∃ (c : Nat) (z : Str), x = .str ⟨#[c]⟩ ∧ y = .str z ∧ Q (.bl (!decide (c ∈ z.cps.toList))) H)
theorem op_inA (hu : X.A.units + 65 < cLine) : OpR X (compareOp .In) (rInA X.K) := op_in_seq.or ((op_inD hu).or op_in_sign)
theorem op_notInA (hu : X.A.units + 65 < cLine) : OpR X (compareOp .NotIn) (rNotInA X.K) := op_notIn_seq.or ((op_notInD hu).or op_notIn_sign)
theorem in_cases {k : Bool → M D} {x y : D} {v w : V} {P : Prop} (rx : RepB c L H x v) (ry : RepB c L H y w) (out : Out m c L W σ H Q (dInW k x y j))
    (h1 : ∀ p vs, w = .ref p → (SqL c.K H p vs ∨ SqT c.K H p vs) → flatV v = true → vs.all flatV = true → Out m c L W σ H Q (k (inV v vs) j) → P)
    (h2 : ∀ d ds, Dp c.K H v d → Dp c.K H w (.list ds) → SeqAt.shaped d = true → SeqAt.shaped (.list ds) = true → Out m c L W σ H Q (k (ds.any fun z => PyData.eqv z d) j) → P)
    (h3 : ∀ (ch : Nat) (z : Str), v = .str ⟨#[ch]⟩ → w = .str z → Out m c L W σ H Q (k (decide (ch ∈ z.cps.toList)) j) → P) : P := by
  have seq : ∀ (lst : Bool) (ds : List D) (p : Addr) (vs : List V), w = .ref p → (SqL c.K H p vs ∨ SqT c.K H p vs) → Reps c L H ds vs → (∀ q, lst = true → toPDs ds = some q → Dp c.K H w (.list q)) → Out m c L W σ H Q (inSeq k lst x ds j) → P := fun lst ds p vs e sq r hd o => by
    unfold inSeq at o
    have deep : Out m c L W σ H Q (inDeep k lst x ds j) → P := fun o => by
      unfold inDeep at o
      cases lst with
      | false => exact o.elim
      | true =>
        cases q1 : toPD x with
        | none => rw [q1] at o; exact o.elim
        | some pd =>
          cases q2 : toPDs ds with
          | none => rw [q1, q2] at o; exact o.elim
          | some ps =>
            rw [q1, q2] at o
            obtain ⟨⟨s1, s2⟩, o⟩ := need_out (r := .stk) o
            exact h2 pd ps (RepB.dp rfl rx q1) (hd ps rfl q2) s1 s2 o
    cases q1 : flatD x with
    | none => rw [q1] at o; exact deep o
    | some v' =>
      cases q2 : flatsD ds with
      | none => rw [q1, q2] at o; exact deep o
      | some vs' =>
        rw [q1, q2] at o
        cases RepB.flat rx q1
        obtain ⟨e1, e2⟩ := r.flats q2
        subst e1
        exact h1 p vs e sq (flatD_flat q1) e2 o
  cases y with
  | lst ds =>
    have out : Out m c L W σ H Q (inSeq k true x ds j) := by cases x <;> exact out
    have ry' := ry
    obtain ⟨a, vs, rfl, n, t, r⟩ := ry
    exact seq true _ a vs rfl (.inl (SqL.of t)) r (fun q _ e => RepB.dp rfl ry' (by show (toPDs _).map _ = _; rw [e]; rfl)) out
  | tup ds =>
    have out : Out m c L W σ H Q (inSeq k false x ds j) := by cases x <;> exact out
    obtain ⟨a, vs, rfl, t, r⟩ := ry.tup
    exact seq false _ a vs rfl (.inr t) r (fun q e _ => nomatch e) out
  | str z =>
    cases x <;> first | exact out.elim | skip
    rename_i s
    cases (show v = .str _ from rx)
    cases (show w = .str _ from ry)
    have out : Out m c L W σ H Q (inStr k s z j) := out
    unfold inStr at out
    cases q : oneSign s with
    | none => rw [q] at out; exact out.elim
    | some ch => rw [q] at out; exact h3 ch z (by rw [oneSign_eq q]) rfl out
  | _ => cases x <;> exact out.elim
theorem ok_in (hK : X.K = c.K) : Ok2 m c (rInA X.K) .look .look dIn := by
  intro B O W ρ j σ H Q x y v w rel ⟨_, rx⟩ ⟨_, ry⟩ out
  exact in_cases rx ry out (fun p vs e sq f1 f2 o => .inl ⟨p, vs, e, hK ▸ sq, f1, f2, o.val rel rfl⟩) (fun d ds d1 d2 s1 s2 o => .inr (.inl ⟨d, ds, hK ▸ d1, hK ▸ d2, s1, s2, o.val rel rfl⟩))
    fun ch z e1 e2 o => .inr (.inr ⟨ch, z, e1, e2, o.val rel rfl⟩)
theorem ok_notIn (hK : X.K = c.K) : Ok2 m c (rNotInA X.K) .look .look dNotIn := by
  intro B O W ρ j σ H Q x y v w rel ⟨_, rx⟩ ⟨_, ry⟩ out
  exact in_cases rx ry out (fun p vs e sq f1 f2 o => .inl ⟨p, vs, e, hK ▸ sq, f1, f2, o.val rel rfl⟩) (fun d ds d1 d2 s1 s2 o => .inr (.inl ⟨d, ds, hK ▸ d1, hK ▸ d2, s1, s2, o.val rel rfl⟩))
    fun ch z e1 e2 o => .inr (.inr ⟨ch, z, e1, e2, o.val rel rfl⟩)
end
end Mir
set_option Elab.async false
set_option linter.all false
set_option maxRecDepth 100000
set_option maxHeartbeats 4000000
/-! Mir11: methods of texts, lists, tuples; formatted texts; starred displays by mirrors. -/
namespace Mir
open PySem L2 PySem.Spec PyProof.Rows
abbrev SMatch := Nat
section
variable {X : Cx} {m : Md} {c : RC} {B O O' L : List Addr} {W : WX} {e a b o : Expr} {me ma mb mo : Env → M D} {pos apos cpos : Pos} {σ : L2.St} {H H' : Hp} {Q : VK} {ρ : Env} {j : List Int} {D' : Ends} {st : Stmt} {sts : List Stmt}
/-! ### the receiver a list or a tuple, or a text -/
/-- what a value's type must be for a method: its object is known to have no dict -/
def TyAt (K : PySem.W.Frag) (T : String) (x : V) (H : Hp) : Prop := match x with
  | .str _ => T = "str"
  | .ref p => (T = "list" ∧ ∃ xs, SqL K H p xs) ∨ (T = "tuple" ∧ ((∃ o xs, H p = some (.frz o (.tup xs)) ∧ o.dict = none) ∨ ∃ o, K.lookup p = some o ∧ o.cls = .type "tuple" ∧ o.dict = none))
  | _ => False
theorem tyAt_is {pins : List (Addr × Obj)} {s : Shared} {T : String} {x : V} {v : Value} (I : Inv X pins σ H s) (r : RelV x v) (ty : TyAt X.K T x H) :
    s.TypeIs v T ∧ ∀ a, v = .ref a → ∃ ob, s.heap.get? a = some ob ∧ ob.dict = none := by
  cases x with
  | str z =>
    obtain ⟨t, rfl⟩ := (show ∃ t, v = .str z t from r)
    cases (show T = "str" from ty)
    exact ⟨typeIs_str s z t, fun _ e => nomatch e⟩
  | ref p =>
    cases (show v = .ref p from r)
    rcases ty with ⟨rfl, xs, hq⟩ | ⟨rfl, ⟨o, xs, hk, hd⟩ | ⟨o, hk, hc, hd⟩⟩
    · obtain ⟨its, _, pl, _⟩ := I.list hq
      refine ⟨pl.isList.typeIs, fun a e => ?_⟩
      cases e
      obtain ⟨o, n, e, c, hd, _⟩ := pl
      exact ⟨o, e, hd⟩
    · obtain ⟨e1, _, its, _, pl⟩ := (show ObjOk X.prog X.w H s.heap p (.frz o (.tup xs)) from I.hok p _ hk)
      exact ⟨pl.typeIs, fun a e => by cases e; exact ⟨o, e1, hd⟩⟩
    · exact ⟨⟨o, I.kIn p o hk, hc⟩, fun a e => by cases e; exact ⟨o, I.kIn _ o hk, hd⟩⟩
  | _ => exact ty.elim
/-- o.name(e): by the receiver's type a method of it -/
def tMx (K : PySem.W.Frag) (R : String → V → List V → Hp → VK → Prop) (to te : TE) : TE := fun σ H Q => to σ H fun x H1 => ∃ T, TyAt K T x H1 ∧ te σ H1 fun y H2 => R T x [y] H2 Q
/-- the methods of a name, by type -/
def Mts (X : Cx) (name : Str) (R : String → V → List V → Hp → VK → Prop) : Prop := ∀ T, (T = "str" ∨ T = "list" ∨ T = "tuple") → ∃ id, PlainAttrs T ∧ Slot T name id ∧ typeOf (.builtin id) = pure (.type "method_descriptor") ∧ MtR X id (R T)
theorem pe_mx {name : Str} {to te : TE} {R : String → V → List V → Hp → VK → Prop} (hR : Mts X name R) (ho : PE X o to) (he : PE X e te) (k : M1Ok X o name apos e cpos) : PE X (.Call (.Attribute o name apos) [e] [] cpos) (tMx X.K R to te) := by
  refine ⟨fun pins s σ H Q I h => ?_⟩
  refine wpAny_Call_method_late k.b k.few k.line rfl (thn (ho.run pins s σ H _ I h) fun v s1 ⟨x, H1, I1, r1, T, ty, q1⟩ => ?_)
  obtain ⟨h1, h2⟩ := tyAt_is I1 r1 ty
  have hT : T = "str" ∨ T = "list" ∨ T = "tuple" := by
    cases x with
    | str z => exact .inl ty
    | ref p => exact .inr (ty.elim (fun z => .inl z.1) fun z => .inr z.1)
    | _ => exact ty.elim
  obtain ⟨id, pa, slot, hty, hm⟩ := hR T hT
  refine ⟨T, id, pa, slot, hty, h1, h2, ?_⟩
  have hA := (pa_cons (es := []) he pa_nil k.st).run cpos pins s1 σ H1 (fun xs H2 => R T x xs H2 Q) I1 q1
  rw [k.st] at hA ⊢
  refine Calls.callWith_builtin (by show (false || (backTo cpos (starEach [] X.env)).any (·.1)) = false; rw [k.pl] <;> rfl) (Calls.evalArgs_plain ?_)
  exact thn hA fun us s2 ⟨vs, H2, I2, r2, q2⟩ => hm pins s2 σ H2 x vs v us Q I2 r1 r2 q2
theorem TupAt.ty {a : Addr} {vs : List V} {K : PySem.W.Frag} (hK : K = c.K) (t : TupAt c L H a vs) : TyAt K "tuple" (.ref a) H := by
  rcases t with ⟨_, o, h, d⟩ | ⟨o, its, n, h1, d, h2, _⟩
  · exact .inr ⟨rfl, .inl ⟨o, vs, h, d⟩⟩
  · exact .inr ⟨rfl, .inr ⟨o, hK ▸ h1, h2, d⟩⟩
/-! ### count -/
def rCnt (K : PySem.W.Frag) (T : String) : V → List V → Hp → VK → Prop := fun x xs H Q => (T = "str" ∧ ∃ a b, x = .str a ∧ xs = [.str b] ∧ Q (.int (Txt.count a b)) H) ∨
  (∃ p ys y, x = .ref p ∧ xs = [y] ∧ ((T = "list" ∧ SqL K H p ys) ∨ (T = "tuple" ∧ SqT K H p ys)) ∧ flatV y = true ∧ ys.all flatV = true ∧ Q (.int (ys.countP fun z => eqV z y : Nat)) H)
theorem count_eqU {y : V} : ∀ {ys : List V} {us : List Value}, Vals ys us → ys.all flatV = true → us.countP (eqU y) = ys.countP fun z => eqV z y
  | _, _, .nil, _ => rfl
  | z :: ys, u :: us, .cons r t, f => by
    rw [List.all_cons, Bool.and_eq_true] at f
    rw [List.countP_cons, List.countP_cons, eqU_of r f.1, count_eqU t f.2]
theorem mts_count : Mts X "count" (rCnt X.K) := by
  intro T hT
  rcases hT with rfl | rfl | rfl
  · refine ⟨_, PySem.F.plainAttrs_str, PySem.F.slot_str_count, PySem.F.type_str_count, ?_⟩
    intro pins s σ H x xs v us Q I rx rs h
    rcases h with ⟨_, h⟩ | ⟨p, ys, y, _, _, ⟨e, _⟩ | ⟨e, _⟩, _⟩
    · exact mt_count pins s σ H x xs v us Q I rx rs h
    · exact absurd e (by decide)
    · exact absurd e (by decide)
  · refine ⟨_, PySem.F.plainAttrs_list, PySem.F.slot_list_count, PySem.F.type_list_count, ?_⟩
    intro pins s σ H x xs v us Q I rx rs h
    rcases h with ⟨e, _⟩ | ⟨p, ys, y, rfl, rfl, ⟨_, hq⟩ | ⟨e, _⟩, fy, fs, q⟩
    · exact absurd e (by decide)
    · cases (show v = .ref p from rx)
      obtain ⟨u, rfl, ru⟩ := rs.one
      obtain ⟨its, rv, ⟨⟨cls, dd, data, sl⟩, n, ho, hc, hdn, hd⟩, hlen⟩ := I.list hq
      simp only at hc hd
      subst hc hd
      refine call_meets PySem.F.slot_list_count ⟨_, ho, rfl⟩ PySem.F.entry_list_count (PySem.F.args_list_count_2 _ _)
        (SeqAt.list_countAt p its.toArray n dd sl u (eqU y)) ⟨ho, fun w hw => mem_eqAt ru fy rv fs w (by simpa using hw), ?_⟩
      refine ⟨.int (ys.countP fun z => eqV z y : Nat), H, I.tok _, ⟨s.toks, ?_⟩, q⟩
      rw [← count_eqU rv fs]
    · exact absurd e (by decide)
  · refine ⟨_, PySem.F.plainAttrs_tuple, PySem.F.slot_tuple_count, PySem.F.type_tuple_count, ?_⟩
    intro pins s σ H x xs v us Q I rx rs h
    rcases h with ⟨e, _⟩ | ⟨p, ys, y, rfl, rfl, ⟨e, _⟩ | ⟨_, hq⟩, fy, fs, q⟩
    · exact absurd e (by decide)
    · exact absurd e (by decide)
    · cases (show v = .ref p from rx)
      obtain ⟨u, rfl, ru⟩ := rs.one
      obtain ⟨its, rv, ⟨⟨cls, dd, data, sl⟩, ho, hc, n, hd⟩, hlen⟩ := I.tuple hq
      simp only at hc hd
      subst hc hd
      refine call_meets PySem.F.slot_tuple_count ⟨_, ho, rfl⟩ PySem.F.entry_tuple_count (PySem.F.args_tuple_count_2 _ _)
        (SeqAt.tuple_countAt p its.toArray n dd sl u (eqU y)) ⟨ho, fun w hw => mem_eqAt ru fy rv fs w (by simpa using hw), ?_⟩
      refine ⟨.int (ys.countP fun z => eqV z y : Nat), H, I.tok _, ⟨s.toks, ?_⟩, q⟩
      rw [← count_eqU rv fs]
def onFlat (y : D) (ds : List D) (k : V → List V → M D) : M D := match flatD y, flatsD ds with
  | some v, some vs => k v vs
  | _, _ => stuck
theorem onFlat_out {y : D} {w : V} {ds : List D} {vs : List V} {k : V → List V → M D} (h : Out m c L W σ H Q (onFlat y ds k j)) (ry : RepB c L H y w) (r : Reps c L H ds vs) : flatV w = true ∧ vs.all flatV = true ∧ Out m c L W σ H Q (k w vs j) := by
  unfold onFlat at h
  cases q1 : flatD y with
  | none => rw [q1] at h; exact h.elim
  | some v' =>
    cases q2 : flatsD ds with
    | none => rw [q1, q2] at h; exact h.elim
    | some vs' =>
      rw [q1, q2] at h
      cases RepB.flat ry q1
      obtain ⟨e1, e2⟩ := r.flats q2
      subst e1
      exact ⟨flatD_flat q1, e2, h⟩
def dCnt : D → D → M D := fun x y => match x with
  | .lst ds => onFlat y ds fun v vs => ret (.int (vs.countP fun z => eqV z v : Nat))
  | .tup ds => onFlat y ds fun v vs => ret (.int (vs.countP fun z => eqV z v : Nat))
  | .str a => match y with
    | .str b => ret (.int (Txt.count a b))
    | _ => stuck
  | _ => stuck
def isSS : D → Bool
  | .lst _ => true
  | .tup _ => true
  | .str _ => true
  | _ => false
def mMx (f : D → D → M D) (mo me : Env → M D) : Env → M D := fun ρ => bnd (mo ρ) fun x => need (isSS x = true) (bnd (me ρ) fun y => f x y)
/-- o.name(e) by a mirror -/
theorem me_mx {name : Str} {R : String → V → List V → Hp → VK → Prop} {f : D → D → M D} (hK : X.K = c.K) (hR : Mts X name R) (ho : ME X .look c B W o mo) (he : ME X .look c B W e me) (k : M1Ok X o name apos e cpos)
    (hl : ∀ (O : List Addr) (ρ : Env) (j : List Int) (σ : L2.St) (H : Hp) (Q : VK) (ds : List D) (vs : List V) (a : Addr) (y : D) (w : V), Rel c B O ρ j σ H → H a = some (.lst vs) → Reps c (O ++ B) H ds vs → RepB c (O ++ B) H y w → Out m c (O ++ B) W σ H Q (f (.lst ds) y j) → R "list" (.ref a) [w] H Q)
    (ht : ∀ (O : List Addr) (ρ : Env) (j : List Int) (σ : L2.St) (H : Hp) (Q : VK) (ds : List D) (vs : List V) (a : Addr) (y : D) (w : V), Rel c B O ρ j σ H → SqT c.K H a vs → Reps c (O ++ B) H ds vs → RepB c (O ++ B) H y w → Out m c (O ++ B) W σ H Q (f (.tup ds) y j) → R "tuple" (.ref a) [w] H Q)
    (hs : ∀ (O : List Addr) (ρ : Env) (j : List Int) (σ : L2.St) (H : Hp) (Q : VK) (s : Str) (y : D) (w : V), Rel c B O ρ j σ H → RepB c (O ++ B) H y w → Out m c (O ++ B) W σ H Q (f (.str s) y j) → R "str" (.str s) [w] H Q) :
    ME X m c B W (.Call (.Attribute o name apos) [e] [] cpos) (mMx f mo me) :=
  me_mono (pe_mx hR ho he k) fun σ H Q ⟨O, ρ, j, rel, out⟩ => by
    refine rd_bnd (m' := .look) (k := fun x => need (isSS x = true) (bnd (me ρ) fun y => f x y)) rel out fun x j1 v H1 rel1 e1 rp1 out1 => ?_
    obtain ⟨h0, out1⟩ := need_out (r := .stk) out1
    have next : ∀ T, TyAt X.K T v H1 → (∀ y j2 w H2, Rel c B O ρ j2 σ H2 → RepB c (O ++ B) H2 x v → RepB c (O ++ B) H2 y w → Out m c (O ++ B) W σ H2 Q (f x y j2) → R T v [w] H2 Q) →
        ∃ T, TyAt X.K T v H1 ∧ rd .look c B W me σ H1 fun y H2 => R T v [y] H2 Q := fun T ty hh =>
      ⟨T, ty, rd_bnd (m' := .look) (k := fun y => f x y) rel1 out1 fun y j2 w H2 rel2 e2 rp2 out2 => hh y j2 w H2 rel2 (RepB.ex rel.jL e2 rp1) rp2 out2⟩
    cases x with
    | lst ds =>
      obtain ⟨a, vs, rfl, t, r⟩ := RepB.lst rp1
      refine next "list" (.inl ⟨rfl, vs, SqL.of t⟩) fun y j2 w H2 rel2 rx ry out2 => ?_
      obtain ⟨a', vs', e, t, r⟩ := RepB.lst rx
      cases e
      exact hl O ρ j2 σ H2 Q ds vs' a y w rel2 t r ry out2
    | tup ds =>
      obtain ⟨a, vs, rfl, t, r⟩ := rp1.tup
      refine next "tuple" (t.ty hK) fun y j2 w H2 rel2 rx ry out2 => ?_
      obtain ⟨a', vs', e, t, r⟩ := RepB.tup rx
      cases e
      exact ht O ρ j2 σ H2 Q ds vs' a y w rel2 t r ry out2
    | str s =>
      cases rp1.str
      exact next "str" rfl fun y j2 w H2 rel2 rx ry out2 => hs O ρ j2 σ H2 Q s y w rel2 ry out2
    | _ => cases h0
theorem me_count (hK : X.K = c.K) (ho : ME X .look c B W o mo) (he : ME X .look c B W e me) (k : M1Ok X o "count" apos e cpos) : ME X m c B W (.Call (.Attribute o "count" apos) [e] [] cpos) (mMx dCnt mo me) :=
  me_mx hK mts_count ho he k
    (fun O ρ j σ H Q ds vs a y w rel t r ry out => by
      obtain ⟨f1, f2, o⟩ := onFlat_out out ry r
      exact .inr ⟨a, vs, w, rfl, rfl, .inl ⟨rfl, SqL.of t⟩, f1, f2, o.val rel rfl⟩)
    (fun O ρ j σ H Q ds vs a y w rel t r ry out => by
      obtain ⟨f1, f2, o⟩ := onFlat_out out ry r
      exact .inr ⟨a, vs, w, rfl, rfl, .inr ⟨rfl, hK ▸ t⟩, f1, f2, o.val rel rfl⟩)
    (fun O ρ j σ H Q s y w rel ry out => by
      cases y <;> first | exact out.elim | skip
      cases (show w = .str _ from ry)
      exact .inl ⟨rfl, _, _, rfl, rfl, out.val rel rfl⟩)
/-! ### index -/
def rIdxA (K : PySem.W.Frag) (T : String) : V → List V → Hp → VK → Prop := fun x xs H Q => (T = "str" ∧ ∃ a b i rest, x = .str a ∧ xs = [.str b] ∧ Builtin.Str.occurrences a b 0 a.length 1 = i :: rest ∧ Q (.int (i : Nat)) H) ∨
  (∃ p ys y i, x = .ref p ∧ xs = [y] ∧ ((T = "list" ∧ SqL K H p ys) ∨ (T = "tuple" ∧ SqT K H p ys)) ∧ flatV y = true ∧ ys.all flatV = true ∧ (ys.findIdx? fun z => eqV z y) = some i ∧ Q (.int (i : Nat)) H)
theorem find_at {ys : List V} {p : V → Bool} {i : Nat} (h : ys.findIdx? p = some i) : ∃ z, ys[i]? = some z ∧ p z = true ∧ ∀ (k : Nat) (z' : V), k < i → ys[k]? = some z' → p z' = false := by
  obtain ⟨h1, h2, h3⟩ := List.findIdx?_eq_some_iff_getElem.mp h
  refine ⟨ys[i], by simp [h1], h2, fun k z' hk hz => ?_⟩
  obtain ⟨hk', e⟩ := List.getElem?_eq_some_iff.mp hz
  have := h3 k hk
  rw [e] at this
  simpa using this
theorem mts_index : Mts X "index" (rIdxA X.K) := by
  intro T hT
  rcases hT with rfl | rfl | rfl
  · refine ⟨_, PySem.F.plainAttrs_str, PySem.F.slot_str_index, PySem.F.type_str_index, ?_⟩
    intro pins s σ H x xs v us Q I rx rs h
    rcases h with ⟨_, h⟩ | ⟨p, ys, y, _, _, _, ⟨e, _⟩ | ⟨e, _⟩, _⟩
    · exact mt_sindex pins s σ H x xs v us Q I rx rs h
    · exact absurd e (by decide)
    · exact absurd e (by decide)
  · refine ⟨_, PySem.F.plainAttrs_list, PySem.F.slot_list_index, PySem.F.type_list_index, ?_⟩
    intro pins s σ H x xs v us Q I rx rs h
    rcases h with ⟨e, _⟩ | ⟨p, ys, y, i, rfl, rfl, ⟨_, hq⟩ | ⟨e, _⟩, fy, fs, hi, q⟩
    · exact absurd e (by decide)
    · obtain ⟨z, h1, h2, h3⟩ := find_at hi
      exact mt_index pins s σ H _ _ v us Q I rx rs ⟨p, ys, y, i, z, rfl, rfl, hq, fy, fs, h1, h2, h3, q⟩
    · exact absurd e (by decide)
  · refine ⟨_, PySem.F.plainAttrs_tuple, PySem.F.slot_tuple_index, PySem.F.type_tuple_index, ?_⟩
    intro pins s σ H x xs v us Q I rx rs h
    rcases h with ⟨e, _⟩ | ⟨p, ys, y, i, rfl, rfl, ⟨e, _⟩ | ⟨_, hq⟩, fy, fs, hi, q⟩
    · exact absurd e (by decide)
    · exact absurd e (by decide)
    · cases (show v = .ref p from rx)
      obtain ⟨u, rfl, ru⟩ := rs.one
      obtain ⟨z, h1, h2, h3⟩ := find_at hi
      obtain ⟨its, rv, ⟨⟨cls, dd, data, sl⟩, ho, hc, n, hd⟩, hlen⟩ := I.tuple hq
      simp only at hc hd
      subst hc hd
      have hl := rv.length
      have at' : ∀ (k : Nat) (hk : k < its.toArray.size), ∃ y', ys[k]? = some y' ∧ RelV y' its.toArray[k] := fun k hk => by
        have hk' : k < ys.length := by rw [hl]; simpa using hk
        obtain ⟨w, hw, rw'⟩ := rv.get (i := k) (x := ys[k]) (by simp [hk'])
        refine ⟨ys[k], by simp [hk'], ?_⟩
        have e := (List.getElem?_eq_some_iff.mp hw).2
        rw [← e] at rw'
        simpa using rw'
      have hj : i < its.toArray.size := by
        have := (List.getElem?_eq_some_iff.mp h1).1
        simp; omega
      refine call_meets PySem.F.slot_tuple_index ⟨_, ho, rfl⟩ PySem.F.entry_tuple_index (PySem.F.args_tuple_index_2 _ _) (_root_.TI.tuple_indexAt p its.toArray n dd sl u (eqU y) i hj ?_ ?_)
        ⟨ho, fun w hw => mem_eqAt ru fy rv fs w (by simpa using hw), ⟨.int (i : Nat), H, I.tok _, ⟨_, rfl⟩, q⟩⟩
      · obtain ⟨y', q1, q2⟩ := at' i hj
        rw [h1] at q1; cases q1
        rw [eqU_of q2 (flat_at fs h1)]; exact h2
      · intro k hk hki
        obtain ⟨y', q1, q2⟩ := at' k hk
        rw [eqU_of q2 (flat_at fs q1)]; exact h3 k y' hki q1
def idxV (v : V) (vs : List V) : M D := match vs.findIdx? fun z => eqV z v with
  | some i => ret (.int (i : Nat))
  | none => stuck
def idxS (a b : Str) : M D := match Builtin.Str.occurrences a b 0 a.length 1 with
  | i :: _ => ret (.int (i : Nat))
  | [] => stuck
def dIdx : D → D → M D := fun x y => match x with
  | .lst ds => onFlat y ds idxV
  | .tup ds => onFlat y ds idxV
  | .str a => match y with
    | .str b => idxS a b
    | _ => stuck
  | _ => stuck
theorem idxV_out {v : V} {vs : List V} (h : Out m c L W σ H Q (idxV v vs j)) : ∃ i, (vs.findIdx? fun z => eqV z v) = some i ∧ Out m c L W σ H Q (ret (.int (i : Nat)) j) := by
  unfold idxV at h
  cases q : vs.findIdx? fun z => eqV z v with
  | none => rw [q] at h; exact h.elim
  | some i => rw [q] at h; exact ⟨i, rfl, h⟩
theorem me_index (hK : X.K = c.K) (ho : ME X .look c B W o mo) (he : ME X .look c B W e me) (k : M1Ok X o "index" apos e cpos) : ME X m c B W (.Call (.Attribute o "index" apos) [e] [] cpos) (mMx dIdx mo me) :=
  me_mx hK mts_index ho he k
    (fun O ρ j σ H Q ds vs a y w rel t r ry out => by
      obtain ⟨f1, f2, o⟩ := onFlat_out out ry r
      obtain ⟨i, h, o⟩ := idxV_out o
      exact .inr ⟨a, vs, w, i, rfl, rfl, .inl ⟨rfl, SqL.of t⟩, f1, f2, h, o.val rel rfl⟩)
    (fun O ρ j σ H Q ds vs a y w rel t r ry out => by
      obtain ⟨f1, f2, o⟩ := onFlat_out out ry r
      obtain ⟨i, h, o⟩ := idxV_out o
      exact .inr ⟨a, vs, w, i, rfl, rfl, .inr ⟨rfl, hK ▸ t⟩, f1, f2, h, o.val rel rfl⟩)
    (fun O ρ j σ H Q s y w rel ry out => by
      cases y <;> first | exact out.elim | skip
      cases (show w = .str _ from ry)
      rename_i b
      have out : Out m c (O ++ B) W σ H Q (idxS s b j) := out
      unfold idxS at out
      cases q : Builtin.Str.occurrences s b 0 s.length 1 with
      | nil => rw [q] at out; exact out.elim
      | cons i r => rw [q] at out; exact .inl ⟨rfl, _, _, i, r, rfl, rfl, q, out.val rel rfl⟩)
/-! ### texts: join, split -/
def mM1 (f : D → D → M D) (mo me : Env → M D) : Env → M D := fun ρ => bnd (mo ρ) fun x => match x with
  | .str s => bnd (me ρ) fun y => f (.str s) y
  | _ => stuck
theorem tM1_of {r : V → List V → Hp → VK → Prop} {f : D → D → M D}
    (hs : ∀ (O : List Addr) (ρ : Env) (j : List Int) (σ : L2.St) (H : Hp) (Q : VK) (s : Str) (y : D) (w : V), Rel c B O ρ j σ H → RepB c (O ++ B) H y w → Out m c (O ++ B) W σ H Q (f (.str s) y j) → r (.str s) [w] H Q)
    (h : rd m c B W (mM1 f mo me) σ H Q) : tM1 r (rd .look c B W mo) (rd .look c B W me) σ H Q := by
  obtain ⟨O, ρ, j, rel, out⟩ := h
  refine rd_bnd (m' := .look) (k := fun x => match x with
    | .str s => bnd (me ρ) fun y => f (.str s) y
    | _ => stuck) rel out fun x j1 v H1 rel1 e1 rp1 out1 => ?_
  cases x <;> first | exact out1.elim | skip
  rename_i s
  cases rp1.str
  exact ⟨⟨s, rfl⟩, rd_bnd (m' := .look) (k := fun y => f (.str s) y) rel1 out1 fun y j2 w H2 rel2 e2 rp2 out2 => hs O ρ j2 σ H2 Q s y w rel2 rp2 out2⟩
def dJoin : D → D → M D := fun x y => match x, y with
  | .str a, .lst ds => onStrsM ds fun ys => need ((ys.map (·.length)).sum + ys.length * a.length ≤ LIM) (ret (.str (Txt.join a ys)))
  | .str a, .tup ds => onStrsM ds fun ys => need ((ys.map (·.length)).sum + ys.length * a.length ≤ LIM) (ret (.str (Txt.join a ys)))
  | _, _ => stuck
where onStrsM (ds : List D) (k : List Str → M D) : M D := onStrs ds k
theorem me_join (hK : X.K = c.K) (ho : ME X .look c B W o mo) (he : ME X .look c B W e me) (hs : starEach [e] X.env = [(false, eval e X.env)] := by rfl) (hbase : attributeBase o "join" X.env (eval o X.env) = eval o X.env := by rfl) (hline : (apos.endLine == cpos.line) = true := by rfl) :
    ME X m c B W (.Call (.Attribute o "join" apos) [e] [] cpos) (mM1 dJoin mo me) :=
  me_mono (pe_join ho he hs hbase hline) fun σ H Q h => tM1_of (fun O ρ j σ H Q s y w rel ry out => by
    cases y <;> first | exact out.elim | skip
    · obtain ⟨a, vs, rfl, t, r⟩ := RepB.tup ry
      obtain ⟨ys, _, rfl, o⟩ := onStrs_out out r
      obtain ⟨h1, h2⟩ := need_out (r := .stk) o
      exact ⟨s, a, ys, rfl, rfl, .inr (hK ▸ t), h1, h2.val rel rfl⟩
    · obtain ⟨a, vs, rfl, t, r⟩ := RepB.lst ry
      obtain ⟨ys, _, rfl, o⟩ := onStrs_out out r
      obtain ⟨h1, h2⟩ := need_out (r := .stk) o
      exact ⟨s, a, ys, rfl, rfl, .inl (SqL.of t), h1, h2.val rel rfl⟩) h
def dSplit : D → D → M D := fun x y => match x, y with
  | .str a, .str b => need ((b.length == 0) = false ∧ a.length + 2 ≤ LIM) (ret (.lst ((Txt.split a b).map .str)))
  | _, _ => stuck
theorem me_split (ho : ME X .look c B W o mo) (he : ME X .look c B W e me) (hs : starEach [e] X.env = [(false, eval e X.env)] := by rfl) (hbase : attributeBase o "split" X.env (eval o X.env) = eval o X.env := by rfl) (hline : (apos.endLine == cpos.line) = true := by rfl) :
    ME X m c B W (.Call (.Attribute o "split" apos) [e] [] cpos) (mM1 dSplit mo me) :=
  me_mono (pe_split ho he hs hbase hline) fun σ H Q h => tM1_of (fun O ρ j σ H Q s y w rel ry out => by
    cases y <;> first | exact out.elim | skip
    cases (show w = .str _ from ry)
    obtain ⟨⟨h1, h2⟩, h3⟩ := need_out (r := .stk) out
    exact ⟨_, _, rfl, rfl, h1, lim_le h2, fun p hp => Out.newL rel h3 (Reps.ofStrs _) hp⟩) h
/-! ### formatted texts -/
def dFmt : D → M D
  | .str s => need (s.length ≤ LIM) (ret (.str s))
  | .int i => need (i.natAbs.log2 < 1920) (ret (.str (toString i)))
  | _ => stuck
theorem me_fmt (h : ME X .look c B W e me) : ME X m c B W (.FormattedValue e (-1) none pos) (mUn dFmt me) :=
  me_mono (pe_fmt h) fun σ H Q ⟨O, ρ, j, rel, out⟩ => rd_bnd rel out fun d j1 v H1 rel1 e1 rp out1 => by
    cases d <;> first | exact out1.elim | skip
    · cases rp.int
      obtain ⟨h1, h2⟩ := need_out (r := .stk) out1
      exact .inr ⟨_, rfl, h1, h2.val rel1 rfl⟩
    · cases rp.str
      obtain ⟨h1, h2⟩ := need_out (r := .stk) out1
      exact .inl ⟨_, rfl, lim_le h1, h2.val rel1 rfl⟩
def mJs : List (Env → M D) → Str → Env → M D
  | [], acc, _ => ret (.str acc)
  | me :: ms, acc, ρ => bnd (me ρ) fun d => match d with
    | .str y => need ((acc ++ y).length ≤ LIM) (mJs ms (acc ++ y) ρ)
    | _ => stuck
theorem js_of : ∀ (ms : List (Env → M D)) (acc : Str) (σ : L2.St) (H : Hp) (Q : VK), rd m c B W (mJs ms acc) σ H Q → tJs (ms.map fun me => rd .look c B W me) acc σ H fun out H1 => Q (.str out) H1
  | [], acc, σ, H, Q, ⟨O, ρ, j, rel, out⟩ => out.val rel rfl
  | me :: ms, acc, σ, H, Q, ⟨O, ρ, j, rel, out⟩ => by
    refine rd_bnd (m' := .look) (k := fun d => match d with
      | .str y => need ((acc ++ y).length ≤ LIM) (mJs ms (acc ++ y) ρ)
      | _ => stuck) rel out fun d j1 v H1 rel1 e1 rp out1 => ?_
    cases d <;> first | exact out1.elim | skip
    cases rp.str
    obtain ⟨h1, h2⟩ := need_out (r := .stk) out1
    exact ⟨_, rfl, lim_le h1, js_of ms _ σ H1 Q ⟨O, ρ, j1, rel1, h2⟩⟩
theorem me_joined {v1 v2 : Expr} {rest : List Expr} (ms : List (Env → M D)) (h : PJ X (v1 :: v2 :: rest) (ms.map fun me => rd .look c B W me)) : ME X m c B W (.JoinedStr (v1 :: v2 :: rest) pos) (mJs ms Str.empty) :=
  me_mono (pe_joined h) fun σ H Q h => js_of ms Str.empty σ H Q h
theorem me_joined1 (h : ME X m c B W e me) : ME X m c B W (.JoinedStr [e] pos) me := pe_joined1 h
/-! ### starred displays -/
def mStar (me : Env → M D) (ml : Env → M (List D)) : Env → M (List D) := fun ρ => bnd (me ρ) fun x => match x with
  | .lst ds => bnd (ml ρ) fun xs => ret (ds ++ xs)
  | .tup ds => bnd (ml ρ) fun xs => ret (ds ++ xs)
  | _ => stuck
theorem ma_star {es : List Expr} {p : Pos} {ml : Env → M (List D)} (hK : X.K = c.K) (he : ME X .look c B W e me) (hs : MA X c B W es ml) (h : starEach (.Starred e p :: es) X.env = (true, eval e X.env) :: starEach es X.env := by rfl) : MA X c B W (.Starred e p :: es) (mStar me ml) :=
  pa_mono (StX.pa_star he hs h) fun σ H Q ⟨O, ρ, j, rel, out⟩ => by
    unfold mStar at out
    refine ⟨O, ρ, j, rel, ?_⟩
    have go : ∀ (ds : List D) (vs : List V) (j1 : List Int) (H1 : Hp), Ex c H H1 → JarAt c H1 j1 → Reps c (O ++ B) H1 ds vs → OutA c (O ++ B) W σ H Q (bnd (ml ρ) (fun xs => ret (ds ++ xs)) j1) → rdA c B W ml σ H1 fun ws H2 => Q (vs ++ ws) H2 := fun ds vs j1 H1 e1 hj1 r o => by
      refine ⟨O, ρ, j1, rel.ex e1 hj1, ?_⟩
      unfold bnd at o
      cases q2 : ml ρ j1 with
      | ok xs j2 =>
        rw [q2] at o
        exact fun ws H2 e2 hj2 rp2 => o (vs ++ ws) H2 (e1.trans e2) hj2 ((Reps.ex (c := c) rel.jL e2 r).app rp2)
      | exc k g j' =>
        rw [q2] at o
        exact Out.ex (m := .keep) (Q := fun _ _ => True) e1 rel.jar hj1 (show Out .keep c (O ++ B) W σ H (fun _ _ => True) (.exc k g j') from o)
      | stk => rw [q2] at o; exact o
    unfold bnd at out
    cases q : me ρ j with
    | ok d j1 =>
      rw [q] at out
      intro v H1 e1 hj1 rp1
      cases d <;> first | exact out.elim | skip
      · obtain ⟨a, vs, rfl, t, r⟩ := rp1.tup
        exact ⟨a, vs, rfl, .inl (hK ▸ t.sq), go _ vs j1 H1 e1 hj1 r out⟩
      · obtain ⟨a, vs, rfl, t, r⟩ := rp1.lst
        exact ⟨a, vs, rfl, .inr (SqL.of t), go _ vs j1 H1 e1 hj1 r out⟩
    | exc k g j' => rw [q] at out; exact out
    | stk => rw [q] at out; exact out.elim
end
end Mir
set_option Elab.async false
set_option linter.all false
set_option maxRecDepth 100000
set_option maxHeartbeats 4000000
/-! Mir12: enumerate and zip over lists, tuples, texts. -/
namespace Mir
open PySem L2 PySem.Spec PyProof.Rows PySem.W
/-- what is walked: a list, a tuple, a text -/
inductive Kd where
  | l (a : Addr) | t (a : Addr) | s (x : Str) (tk : Tok)
def Kd.ads : Kd → List Addr
  | .l a => [a]
  | .t a => [a]
  | .s _ _ => []
/-- its iterator, at turn i -/
def Kd.it : Kd → Addr → Nat → Heap → Prop
  | .l a, I, i, h => h.IsListIter I a i
  | .t a, I, i, h => h.IsTupleIter I a i
  | .s x tk, I, i, h => h.IsStrIter I (strIterType x) x tk i
def signs (x : Str) : List V := x.cps.toList.map fun c => V.str ⟨#[c]⟩
/-- its items -/
def Kd.at (K : PySem.W.Frag) : Kd → Hp → List V → Prop
  | .l a, H, xs => SqL K H a xs
  | .t a, H, xs => SqT K H a xs
  | .s x _, _, xs => xs = signs x
def Kd.val : Kd → Value
  | .l a => .ref a
  | .t a => .ref a
  | .s x tk => .str x tk
def Kd.obj : Kd → Obj
  | .l a => { cls := .type "list_iterator", data := .fields #[.ref a, .int 0 0] }
  | .t a => { cls := .type "tuple_iterator", data := .fields #[.ref a, .int 0 0] }
  | .s x tk => { cls := .type (strIterType x), data := .fields #[.str x tk, .int 0 0] }
theorem Kd.it_at {k : Kd} {I : Addr} {i : Nat} {h h' : Heap} (x : k.it I i h) (e : ∀ o, h.get? I = some o → h'.get? I = some o) : k.it I i h' := by
  cases k with
  | l a => exact Heap.IsListIter.at x e
  | t a => exact Heap.IsTupleIter.at x e
  | s z tk => obtain ⟨o, ho, r⟩ := x; exact ⟨o, e o ho, r⟩
theorem Kd.it_obj {k : Kd} {I : Addr} {i : Nat} {h : Heap} (x : k.it I i h) : ∃ o, h.get? I = some o ∧ ∀ v, o.data ≠ .cell v := by
  cases k with
  | l a => obtain ⟨o, ho, _, d⟩ := x; exact ⟨o, ho, fun v z => by rw [d] at z; cases z⟩
  | t a => obtain ⟨o, ho, _, d⟩ := x; exact ⟨o, ho, fun v z => by rw [d] at z; cases z⟩
  | s z tk => obtain ⟨o, ho, _, d⟩ := x; exact ⟨o, ho, fun v z => by rw [d] at z; cases z⟩
theorem Kd.it0 {k : Kd} {I : Addr} {h : Heap} (e : h.get? I = some k.obj) : k.it I 0 h := by
  cases k with
  | l a => exact ⟨_, e, rfl, rfl⟩
  | t a => exact ⟨_, e, rfl, rfl⟩
  | s z tk => exact ⟨_, e, rfl, rfl⟩
section
variable {X : Cx} {pins : List (Addr × Obj)} {s : Shared} {σ : L2.St} {H : Hp}
theorem Kd.inj {k : Kd} {xs ys : List V} (I : Inv X pins σ H s) (h1 : k.at X.K H xs) (h2 : k.at X.K H ys) : xs = ys := by
  cases k with
  | l a => exact I.list_inj h1 h2
  | t a => exact I.tuple_inj h1 h2
  | s z tk => exact (show xs = signs z from h1).trans (show ys = signs z from h2).symm
theorem Kd.len {k : Kd} {xs : List V} (I : Inv X pins σ H s) (h1 : k.at X.K H xs) : ∀ a ∈ k.ads, a < s.heap.objs.size := by
  cases k with
  | l a => obtain ⟨its, rv, p, hz⟩ := I.list h1; obtain ⟨_, e, _⟩ := p.isList; exact fun b hb => by rw [show b = a from by simpa [Kd.ads] using hb]; exact Heap.lt_size e
  | t a => obtain ⟨its, rv, ⟨_, e, _⟩, hz⟩ := I.tuple h1; exact fun b hb => by rw [show b = a from by simpa [Kd.ads] using hb]; exact Heap.lt_size e
  | s z tk => intro a h; cases h
/-- what its iterator draws -/
theorem Kd.draws {k : Kd} {xs : List V} {it : Addr} (hc : X.calm = true) (I : Inv X pins σ H s) (h1 : k.at X.K H xs) (ne : ∀ a ∈ k.ads, a ≠ it) : ∃ (P : Nat → Value → Prop) (St : Nat → Heap → Prop),
    Draws X.prog X.w X.A.in1 it (it :: k.ads) xs.length P St ∧ (∀ i, k.it it i s.heap → St i s.heap) ∧ (∀ i h, St i h → k.it it i h) ∧ (∀ i u, P i u → ∃ x, xs[i]? = some x ∧ RelV x u) := by
  have hh : X.A.in1.handled = none := I.ok.hd hc
  have val : ∀ {its : List Value}, Vals xs its → ∀ i u, its.toArray[i]? = some u → ∃ x, xs[i]? = some x ∧ RelV x u := fun {its} rv i u hu => by
    have hi : i < xs.length := by rw [rv.length]; have := (Array.getElem?_eq_some_iff.mp hu).1; simpa using this
    obtain ⟨w, hw, rw'⟩ := rv.get (i := i) (x := xs[i]) (by simp [hi])
    have e : its[i]? = some u := by rw [← List.getElem?_toArray]; exact hu
    rw [e] at hw; cases hw
    exact ⟨xs[i], List.getElem?_eq_getElem hi, rw'⟩
  cases k with
  | l a =>
    obtain ⟨its, rv, p, hz⟩ := I.list h1
    have hl : xs.length = its.toArray.size := by rw [rv.length]; simp
    refine ⟨fun i v => its.toArray[i]? = some v, fun i h => h.IsListIter it a i ∧ h.IsList a its.toArray, ?_, fun i h => ⟨h, p.isList⟩, fun i h st => st.1, val rv⟩
    rw [hl]
    exact Draws.list hh it a (ne a (by simp [Kd.ads])) its.toArray
  | t a =>
    obtain ⟨its, rv, p, hz⟩ := I.tuple h1
    have hl : xs.length = its.toArray.size := by rw [rv.length]; simp
    refine ⟨fun i v => its.toArray[i]? = some v, fun i h => h.IsTupleIter it a i ∧ h.IsTuple a its.toArray, ?_, fun i h => ⟨h, (show s.heap.IsTuple a its.toArray from p)⟩, fun i h st => st.1, val rv⟩
    rw [hl]
    exact Draws.tuple hh it a (ne a (by simp [Kd.ads])) its.toArray
  | s z tk =>
    have h1 : xs = signs z := h1
    subst h1
    have hl : (signs z).length = z.cps.size := by unfold signs; rw [List.length_map, Array.length_toList]
    refine ⟨fun i v => ∃ c u, z.cps[i]? = some c ∧ v = .str ⟨#[c]⟩ u, fun i h => h.IsStrIter it (strIterType z) z tk i, ?_, fun i h => h, fun i h st => st, fun i u hu => ?_⟩
    · rw [hl]; exact Draws.text hh it z tk
    · obtain ⟨ch, t, h2, rfl⟩ := hu
      refine ⟨.str ⟨#[ch]⟩, ?_, ⟨t, rfl⟩⟩
      unfold signs
      rw [List.getElem?_map, Array.getElem?_toList, h2]; rfl
theorem Kd.begins {k : Kd} {xs : List V} (I : Inv X pins σ H s) (h1 : k.at X.K H xs) : ∃ Hq : Heap → Prop, Begins k.val k.obj Hq ∧ Hq s.heap := by
  cases k with
  | l a => obtain ⟨its, rv, p, hz⟩ := I.list h1; exact ⟨_, begins_list a its.toArray, p.isList⟩
  | t a => obtain ⟨its, rv, p, hz⟩ := I.tuple h1; exact ⟨_, begins_tuple a its.toArray, p⟩
  | s z tk => exact ⟨_, begins_text z tk, trivial⟩
end
/-! ### enumerate -/
/-- the pairs are new, tracked with their objects -/
def IteF (K : PySem.W.Frag) (k : Kd) : It :=
  ⟨fun i H => ∃ (xs : List V) (x : V), k.at K H xs ∧ xs[i]? = some x, fun i H v H' => ∃ T o x, v = .ref T ∧ H T = none ∧ o.dict = none ∧ H' = upd H T (.frz o (.tup [.int (i : Nat), x])) ∧ ∀ xs, k.at K H xs → xs[i]? = some x, fun i H => ∃ xs : List V, k.at K H xs ∧ i = xs.length⟩
theorem turn_enumF {P : Program} {w : World} {K : PySem.W.Frag} {elts : List Expr} {kk : Nat} {tpos : Pos} (k : Kd) (e it : Addr) (hne : e ≠ it) (ne : ∀ a ∈ k.ads, a ≠ it) (ne2 : ∀ a ∈ k.ads, a ≠ e) :
    Turn P w K (.Tuple elts kk tpos) (IteF K k) [e, it] e (fun i h => (∃ old, IsEnum h e it ((i : Nat) : Int) old) ∧ k.it it i h) where
  mem := by simp
  obj := fun i h st b hb => by
    obtain ⟨⟨old, he⟩, hi⟩ := st
    have e' : b = e ∨ b = it := by simpa using hb
    rcases e' with z | z
    · rw [z]; exact ⟨_, he, fun v q => nomatch q⟩
    · rw [z]; exact Kd.it_obj hi
  keep := fun i h h' st k' => let ⟨⟨old, he⟩, hi⟩ := st; ⟨⟨old, k' e (by simp) _ he⟩, Kd.it_at hi fun o q => k' it (by simp) o q⟩
  item := by
    intro X hP hw hK hc i pins s σ H E I hf st hg
    subst hP hw hK
    obtain ⟨⟨old, he⟩, hit⟩ := st
    obtain ⟨xs, x, hq, hx⟩ := hg
    obtain ⟨Pd, Sd, D, d1, d2, d3⟩ := Kd.draws hc I hq ne
    have hel : e < s.heap.objs.size := Heap.lt_size he
    have hil : it < s.heap.objs.size := by obtain ⟨o, q, _⟩ := Kd.it_obj hit; exact Heap.lt_size q
    have hef : e ∉ it :: k.ads := fun z => (List.mem_cons.mp z).elim hne fun z => ne2 e z rfl
    refine wpAny_pyNext_enum_itemC D he (d1 i hit) ((List.getElem?_eq_some_iff.mp hx).1) hne hef fun u h' tk hu ho hst hT hsz hk => ?_
    obtain ⟨x', hx', ru⟩ := d3 i u hu
    rw [hx] at hx'; cases hx'
    refine ⟨_, rfl, wpAny_letOwnedTupleGo_enum (s := { s with heap := h', toks := tk + 1 }) ho fun h'' he' sb => ?_⟩
    have hT2 : h''.get? s.heap.objs.size = some { cls := .type "tuple", data := .seq #[.int i tk, u] } := (sb.2 _ (Nat.ne_of_gt hel)).trans hT
    have new : ObjOk X.prog X.w (upd H s.heap.objs.size (.frz { cls := .type "tuple", data := .seq #[.int i tk, u] } (.tup [.int (i : Nat), x]))) h'' s.heap.objs.size (.frz { cls := .type "tuple", data := .seq #[.int i tk, u] } (.tup [.int (i : Nat), x])) :=
      ⟨hT2, by show 2 ≤ sizeLine; decide, [.int i tk, u], .cons ⟨_, rfl⟩ (.cons ru .nil), ⟨_, hT2, rfl, _, rfl⟩⟩
    have I1 : Inv X pins σ (upd H s.heap.objs.size (.frz { cls := .type "tuple", data := .seq #[.int i tk, u] } (.tup [.int (i : Nat), x]))) { s with heap := h'', toks := tk + 1 } :=
      I.turnedNew (ch := [e, it]) (fun b ob hb q => (sb.2 b (fun z => hb (by simp [z]))).trans (hk b ob (fun z => hb (by simp [z])) (fun z => hb (by simp [z])) q)) hf (Nat.le_refl _) new
    refine ⟨.ref s.heap.objs.size, _, I1, rfl, ⟨_, _, x, rfl, I.hok.fresh (Nat.le_refl _), rfl, rfl, fun ys hy => by rw [Kd.inj I hy hq]; exact hx⟩, ⟨⟨u, ?_⟩, Kd.it_at (d2 _ _ hst) fun o q => (sb.2 it (Ne.symm hne)).trans q⟩, fun b hb => ?_⟩
    · have e1 : ((i + 1 : Nat) : Int) = (i : Int) + 1 := by omega
      rw [e1]; exact he'
    · have hb' : b < s.heap.objs.size := by
        have e' : b = e ∨ b = it := by simpa using hb
        rcases e' with z | z
        · rw [z]; exact hel
        · rw [z]; exact hil
      rw [upd_ne (Nat.ne_of_lt hb')]
      exact (hf b hb).1
  done := by
    intro X hP hw hK hc i pins s σ H E I hf st hg
    subst hP hw hK
    obtain ⟨⟨old, he⟩, hit⟩ := st
    obtain ⟨xs, hq, hx⟩ := hg
    obtain ⟨Pd, Sd, D, d1, d2, d3⟩ := Kd.draws hc I hq ne
    subst hx
    exact wpAny_pyNext_enum_endD D he (d1 _ hit) fun h' eb => ⟨rfl, I.turnedL (t' := s.toks) (ch := [e, it]) (fun c o hb q => eb c o (fun z => hb (by simp [z])) q) hf⟩
  self := fun A i s Q E st h => let ⟨⟨_, he⟩, _⟩ := st; wpAny_pyIter_enum he h
theorem meets_enum1 {v : Value} {o : Obj} {H : Heap → Prop} (B : Begins v o H) :
    Meets (Builtin.«enumerate.__new__» ⟨[.type "enumerate", v], []⟩) (fun _ R s => H s.heap ∧
      R (.ok (.ret (.ref (s.heap.push o).objs.size))) { s with heap := (s.heap.push o).push { cls := .type "enumerate", data := .fields #[.none, .bool false, .ref s.heap.objs.size, rawInt 0, .none, .none] } }) :=
  .of_wp fun prog w A R s h => by
    obtain ⟨hp, g, d, tk, os⟩ := s; obtain ⟨h1, h⟩ := h
    have hsub := sub_enumerate
    have q1 : ∀ {A' : Around} {E : Value → Shared → Prop} {Q : Value → Shared → Prop}, Q (.ref hp.objs.size) ⟨hp.push o, g, d, tk, os⟩ → wpAny (model prog w) A' (pyIter v) Q E ⟨hp, g, d, tk, os⟩ :=
      fun q => B.iter prog w _ _ ⟨hp, g, d, tk, os⟩ _ h1 q
    wp_walk using q1
    refine wpAny_stack_any fun st => wpAny_pure ?_
    split
    · rename_i c _ _ _ _ _
      cases (c == Value.type "enumerate") <;> (wp_walk using q1; exact ⟨_, rfl, h⟩)
    · wp_walk using q1
      exact ⟨_, rfl, h⟩
theorem enum_begins1 {prog : Program} {w : World} {A : Around} {E : Value → Shared → Prop} {s : Shared} {v : Value} {o : Obj} {H : Heap → Prop} {Q : Value → Shared → Prop} (B : Begins v o H) (h1 : H s.heap)
    (h : ∀ h', IsEnum h' (s.heap.objs.size + 1) s.heap.objs.size 0 .none → h'.get? s.heap.objs.size = some o → (∀ b o, s.heap.get? b = some o → h'.get? b = some o) → Q (.ref (s.heap.objs.size + 1)) { s with heap := h' }) :
    wpAny (model prog w) A (call (.type "enumerate") [v]) Q E s := by
  refine callType_new F.called_enumerate (by decide) (F.typeCall_enumerate_1 _) (F.newCall_enumerate_1 _) (fun obj => F.args_object_init_2 obj _) F.entry_enumerate_new (meets_enum1 B) ⟨h1, ?_⟩
  have hz : (s.heap.push o).objs.size = s.heap.objs.size + 1 := Heap.size_push ..
  show _ ∧ _
  rw [hz]
  have he := Heap.get?_push_size (s.heap.push o) (o := { cls := .type "enumerate", data := .fields #[.none, .bool false, .ref s.heap.objs.size, rawInt 0, .none, .none] }) rfl
  rw [hz] at he
  exact ⟨⟨_, he, rfl⟩, h _ he (Heap.get?_push_of_some _ (Heap.get?_push_size _ B.free)) fun b o x => Heap.get?_push_of_some _ (Heap.get?_push_of_some _ x)⟩
/-- the kind of a value that may be walked -/
def kdOf : V → Hp → PySem.W.Frag → List V → (Kd → Prop) → Prop := fun v H K xs R => (∃ a, v = .ref a ∧ SqL K H a xs ∧ R (.l a)) ∨ (∃ a, v = .ref a ∧ SqT K H a xs ∧ R (.t a)) ∨ (∃ z, v = .str z ∧ xs = signs z ∧ ∀ tk, R (.s z tk))
theorem kdOf.out {v : V} {u : Value} {H : Hp} {K : PySem.W.Frag} {xs : List V} {R : Kd → Prop} (h : kdOf v H K xs R) (r : RelV v u) : ∃ k : Kd, k.at K H xs ∧ u = k.val ∧ R k := by
  rcases h with ⟨a, rfl, h1, h2⟩ | ⟨a, rfl, h1, h2⟩ | ⟨z, rfl, h1, h2⟩
  · exact ⟨.l a, h1, r, h2⟩
  · exact ⟨.t a, h1, r, h2⟩
  · obtain ⟨tk, e⟩ := (show ∃ t, u = .str z t from r)
    exact ⟨.s z tk, h1, e, h2 tk⟩
def iEnumF (K : PySem.W.Frag) (ta : TA) : TI := fun σ H R => ta σ H fun vs H1 => ∃ v xs, vs = [v] ∧ kdOf v H1 K xs fun k => R (IteF K k) H1
theorem pi_enumF {X : Cx} {e : Expr} {ta : TA} {p pos tpos : Pos} {elts : List Expr} {kk : Nat} (hm : X.mg "enumerate" = none) (ha : PA X [e] ta) (hg : Gl X "enumerate" := by rfl) (hs0 : starEach [e] X.env = [(false, eval e X.env)] := by rfl) :
    PI X (.Tuple elts kk tpos) (.Call (.Name "enumerate" p) [e] [] pos) (iEnumF X.K ta) := by
  refine ⟨fun pins s σ H R I h => ?_⟩
  refine Call_ (ld_blt I hg hm boot_enumerate (PyProof.Rows.callWith_type1 (thn (ha.run pos pins s σ H _ I h) fun us s1 ⟨vs, H1, I1, r1, v, xs, ev, q1⟩ => ?_) hs0 rfl))
  subst ev
  obtain ⟨u, rfl, ru⟩ := r1.one
  obtain ⟨k, hk, rfl, q⟩ := q1.out ru
  obtain ⟨Hq, B, hb⟩ := Kd.begins I1 hk
  have lt := Kd.len I1 hk
  refine enum_begins1 B hb fun h' he hit hkeep => wpAny_pyIter_enum he ?_
  have I2 : Inv X pins σ H1 { s1 with heap := h' } := I1.kept (t' := s1.toks) hkeep
  refine ⟨s1.heap.objs.size + 1, [s1.heap.objs.size + 1, s1.heap.objs.size], _, _, H1, rfl, I2, turn_enumF k (s1.heap.objs.size + 1) s1.heap.objs.size (Nat.succ_ne_self _) (fun a ha => Nat.ne_of_lt (lt a ha)) (fun a ha => Nat.ne_of_lt (Nat.lt_succ_of_lt (lt a ha))), ⟨⟨.none, he⟩, Kd.it0 hit⟩, fun b hb => ?_, q⟩
  have e' : b = s1.heap.objs.size + 1 ∨ b = s1.heap.objs.size := by simpa using hb
  have hle : s1.heap.objs.size ≤ b := by
    rcases e' with z | z
    · rw [z]; exact Nat.le_add_right _ _
    · rw [z]; exact Nat.le_refl _
  exact I1.fpOk hle (I1.hok.fresh hle)
/-! ### zip of two -/
def ItzF (K : PySem.W.Frag) (k1 k2 : Kd) : It :=
  ⟨fun i H => ∃ (xs ys : List V) (x y : V), k1.at K H xs ∧ k2.at K H ys ∧ xs[i]? = some x ∧ ys[i]? = some y,
    fun i H v H' => ∃ T o x y, v = .ref T ∧ H T = none ∧ o.dict = none ∧ H' = upd H T (.frz o (.tup [x, y])) ∧ (∀ xs, k1.at K H xs → xs[i]? = some x) ∧ ∀ ys, k2.at K H ys → ys[i]? = some y,
    fun i H => ∃ xs ys : List V, k1.at K H xs ∧ k2.at K H ys ∧ i ≤ xs.length ∧ i ≤ ys.length ∧ (i = xs.length ∨ i = ys.length)⟩
theorem turn_zipF {P : Program} {w : World} {K : PySem.W.Frag} {elts : List Expr} {kk : Nat} {tpos : Pos} (k1 k2 : Kd) (N : Nat) (h1 : ∀ a ∈ k1.ads, a < N) (h2 : ∀ a ∈ k2.ads, a < N) :
    Turn P w K (.Tuple elts kk tpos) (ItzF K k1 k2) [N + 4, N + 2, N + 3, N, N + 1] (N + 4) (fun i h => IsZip h (N + 4) (N + 2) (N + 3) .none ∧ IsTupOf2 h (N + 2) (.ref N) (.ref (N + 1)) ∧ (∃ x y, IsTupOf2 h (N + 3) x y) ∧ k1.it N i h ∧ k2.it (N + 1) i h) where
  mem := by simp
  obj := fun i h st b hb => by
    obtain ⟨hz, hTI, ⟨x, y, hTO⟩, q1, q2⟩ := st
    have e' : b = N + 4 ∨ b = N + 2 ∨ b = N + 3 ∨ b = N ∨ b = N + 1 := by simpa using hb
    rcases e' with q | q | q | q | q
    · rw [q]; exact ⟨_, hz, fun v q => nomatch q⟩
    · rw [q]; exact ⟨_, hTI, fun v q => nomatch q⟩
    · rw [q]; exact ⟨_, hTO, fun v q => nomatch q⟩
    · rw [q]; exact Kd.it_obj q1
    · rw [q]; exact Kd.it_obj q2
  keep := fun i h h' st k => by
    obtain ⟨hz, hTI, ⟨x, y, hTO⟩, q1, q2⟩ := st
    exact ⟨k _ (by simp) _ hz, k _ (by simp) _ hTI, ⟨x, y, k _ (by simp) _ hTO⟩, Kd.it_at q1 fun o q => k N (by simp) o q, Kd.it_at q2 fun o q => k (N + 1) (by simp) o q⟩
  item := by
    intro X hP hw hK hc i pins s σ H E I hf st hg
    subst hP hw hK
    obtain ⟨hz, hTI, ⟨x0, y0, hTO⟩, q1, q2⟩ := st
    obtain ⟨xs, ys, x, y, hqx, hqy, hx, hy⟩ := hg
    obtain ⟨P1, S1, D1, a1, a2, a3⟩ := Kd.draws (it := N) hc I hqx fun a ha => Nat.ne_of_lt (h1 a ha)
    obtain ⟨P2, S2, D2, b1, b2, b3⟩ := Kd.draws (it := N + 1) hc I hqy fun a ha => Nat.ne_of_lt (Nat.lt_succ_of_lt (h2 a ha))
    have Z := zip_sep2 h1 h2
    have zl : (N + 4 : Nat) < s.heap.objs.size := Heap.lt_size hz
    refine wpAny_pyNext_zipD2_item Z D1 D2 hz hTI hTO (a1 i q1) (b1 i q2) (List.getElem?_eq_some_iff.mp hx).1 (List.getElem?_eq_some_iff.mp hy).1 fun u1 u2 h' tk hu1 hu2 hz' hTO' st1 st2 hT hsz hk => ?_
    obtain ⟨x', hx', ru⟩ := a3 i u1 hu1
    rw [hx] at hx'; cases hx'
    obtain ⟨y', hy', ru2⟩ := b3 i u2 hu2
    rw [hy] at hy'; cases hy'
    refine ⟨_, rfl, wpAny_letOwnedTupleGo_zip (s := { s with heap := h', toks := tk }) hz' fun h'' z'' sb => ?_⟩
    have hT2 : h''.get? s.heap.objs.size = some { cls := .type "tuple", data := .seq #[u1, u2] } := (sb.2 _ (Nat.ne_of_gt zl)).trans hT
    have new : ObjOk X.prog X.w (upd H s.heap.objs.size (.frz { cls := .type "tuple", data := .seq #[u1, u2] } (.tup [x, y]))) h'' s.heap.objs.size (.frz { cls := .type "tuple", data := .seq #[u1, u2] } (.tup [x, y])) :=
      ⟨hT2, by show 2 ≤ sizeLine; decide, [u1, u2], .cons ru (.cons ru2 .nil), ⟨_, hT2, rfl, _, rfl⟩⟩
    have I1 : Inv X pins σ (upd H s.heap.objs.size (.frz { cls := .type "tuple", data := .seq #[u1, u2] } (.tup [x, y]))) { s with heap := h'', toks := tk } :=
      I.turnedNew (ch := [N + 4, N + 2, N + 3, N, N + 1]) (fun c o hb q => (sb.2 c (fun z => hb (by simp [z]))).trans (hk c o (fun z => hb (by simp [z])) (fun z => hb (by simp [z])) (fun z => hb (by simp [z])) (fun z => hb (by simp [z])) q)) hf (Nat.le_refl _) new
    refine ⟨.ref s.heap.objs.size, _, I1, rfl, ⟨_, _, x, y, rfl, I.hok.fresh (Nat.le_refl _), rfl, rfl, fun l hl => by rw [Kd.inj I hl hqx]; exact hx, fun l hl => by rw [Kd.inj I hl hqy]; exact hy⟩, ⟨z'', ?_, ⟨u1, u2, ?_⟩, ?_, ?_⟩, fun c hcm => ?_⟩
    · exact (sb.2 _ Z.TIz).trans (hk _ _ Z.TIz Z.TITO Z.TIi1 Z.TIi2 hTI)
    · exact (sb.2 _ Z.TOz).trans hTO'
    · exact Kd.it_at (a2 _ _ st1) fun o q => (sb.2 _ (Ne.symm Z.zi1)).trans q
    · exact Kd.it_at (b2 _ _ st2) fun o q => (sb.2 _ (Ne.symm Z.zi2)).trans q
    · have hlt : c < s.heap.objs.size := by
        have e' : c = N + 4 ∨ c = N + 2 ∨ c = N + 3 ∨ c = N ∨ c = N + 1 := by simpa using hcm
        refine Nat.lt_of_le_of_lt (m := N + 4) ?_ zl
        rcases e' with z | z | z | z | z
        · exact Nat.le_of_eq z
        all_goals (rw [z]; show (_ : Nat) ≤ _; simp)
      rw [upd_ne (Nat.ne_of_lt hlt)]
      exact (hf c hcm).1
  done := by
    intro X hP hw hK hc i pins s σ H E I hf st hg
    subst hP hw hK
    obtain ⟨hz, hTI, ⟨x0, y0, hTO⟩, q1, q2⟩ := st
    obtain ⟨xs, ys, hqx, hqy, l1, l2, hend⟩ := hg
    obtain ⟨P1, S1, D1, a1, a2, a3⟩ := Kd.draws (it := N) hc I hqx fun a ha => Nat.ne_of_lt (h1 a ha)
    obtain ⟨P2, S2, D2, b1, b2, b3⟩ := Kd.draws (it := N + 1) hc I hqy fun a ha => Nat.ne_of_lt (Nat.lt_succ_of_lt (h2 a ha))
    exact wpAny_pyNext_zipD2_end (zip_sep2 h1 h2) D1 D2 hz hTI hTO (a1 i q1) (b1 i q2) l1 l2 hend fun h' tk hk => ⟨rfl, I.turnedL (t' := tk) (ch := [N + 4, N + 2, N + 3, N, N + 1]) (fun c o hb q =>
      hk c o (fun z => hb (by simp [z])) (fun z => hb (by simp [z])) (fun z => hb (by simp [z])) (fun z => hb (by simp [z])) q) hf⟩
  self := fun A i s Q E st h => wpAny_pyIter_zip st.1 h
def iZipF (K : PySem.W.Frag) (ta : TA) : TI := fun σ H R => ta σ H fun vs H1 => ∃ v w xs ys, vs = [v, w] ∧ kdOf v H1 K xs fun k1 => kdOf w H1 K ys fun k2 => R (ItzF K k1 k2) H1
theorem pi_zipF {X : Cx} {e e2 : Expr} {ta : TA} {p pos tpos : Pos} {elts : List Expr} {kk : Nat} (hm : X.mg "zip" = none) (ha : PA X [e, e2] ta) (hg : Gl X "zip" := by rfl)
    (hs : starEach [e, e2] X.env = (false, eval e X.env) :: starEach [e2] X.env := by rfl) (hpl : (backTo pos (starEach [e2] X.env)).any (·.1) = false := by rfl) :
    PI X (.Tuple elts kk tpos) (.Call (.Name "zip" p) [e, e2] [] pos) (iZipF X.K ta) := by
  refine ⟨fun pins s σ H R I h => ?_⟩
  refine Call_ (ld_blt I hg hm PyProof.Rows.boot_zip (PyProof.Rows.callWith_type1 (thn (ha.run pos pins s σ H _ I h) fun us s1 ⟨vs, H1, I1, r1, v, w, xs, ys, ev, q1⟩ => ?_) hs hpl))
  subst ev
  obtain ⟨u1, u2, rfl, ru1, ru2⟩ := r1.two
  obtain ⟨k1, hk1, rfl, q2⟩ := q1.out ru1
  obtain ⟨k2, hk2, rfl, q⟩ := q2.out ru2
  obtain ⟨H1q, B1, hb1⟩ := Kd.begins I1 hk1
  obtain ⟨H2q, B2, hb2⟩ := Kd.begins I1 hk2
  refine zip_begins2 B1 B2 hb1 hb2 fun h' hz hTI hTO g1 g2 hsz hkeep => wpAny_pyIter_zip hz ?_
  have I2 : Inv X pins σ H1 { s1 with heap := h' } := I1.kept (t' := s1.toks) hkeep
  refine ⟨s1.heap.objs.size + 4, _, _, _, H1, rfl, I2, turn_zipF k1 k2 s1.heap.objs.size (Kd.len I1 hk1) (Kd.len I1 hk2), ⟨hz, hTI, ⟨_, _, hTO⟩, Kd.it0 g1, Kd.it0 g2⟩, fun c hcm => ?_, q⟩
  have e' : c = s1.heap.objs.size + 4 ∨ c = s1.heap.objs.size + 2 ∨ c = s1.heap.objs.size + 3 ∨ c = s1.heap.objs.size ∨ c = s1.heap.objs.size + 1 := by simpa using hcm
  have hle : s1.heap.objs.size ≤ c := by
    rcases e' with z | z | z | z | z
    · rw [z]; exact Nat.le_add_right _ _
    · rw [z]; exact Nat.le_add_right _ _
    · rw [z]; exact Nat.le_add_right _ _
    · rw [z]; exact Nat.le_refl _
    · rw [z]; exact Nat.le_add_right _ _
  exact I1.fpOk hle (I1.hok.fresh hle)
/-! ### the mirrors -/
section
variable {X : Cx} {m : Md} {c : RC} {B O O' L : List Addr} {W : WX} {e a b o : Expr} {me ma mb mo : Env → M D} {pos : Pos} {σ : L2.St} {H H' : Hp} {Q : VK} {ρ : Env} {j : List Int}
/-- the items of a list, a tuple, a text -/
def itemsD : D → Option (List D)
  | .lst ds => some ds
  | .tup ds => some ds
  | .str s => some (s.cps.toList.map fun x => .str ⟨#[x]⟩)
  | _ => none
theorem Reps.signs (z : Str) : Reps c L H (z.cps.toList.map fun x => .str ⟨#[x]⟩) (Mir.signs z) := by
  unfold Mir.signs
  generalize z.cps.toList = l
  induction l with
  | nil => rfl
  | cons x l ih => exact ⟨_, _, rfl, rfl, ih⟩
/-- the kind's items at every later time -/
def KdR (c : RC) (B O : List Addr) (H : Hp) (k : Kd) (ds : List D) (xs : List V) : Prop := ∀ (O2 : List Addr) (H2 : Hp), Grow c O H O2 H2 → k.at c.K H2 xs ∧ Reps c (O2 ++ B) H2 ds xs
theorem kdOf_of {K : PySem.W.Frag} (hK : K = c.K) {d : D} {v : V} {ds : List D} {R : Kd → Prop} (jB : InJ c B) (rp : Rep c (O ++ B) H d v) (h : itemsD d = some ds) (hR : ∀ k xs, KdR c B O H k ds xs → R k) : ∃ xs, kdOf v H K xs R := by
  subst hK
  cases d <;> cases h
  · rename_i z
    cases (show v = .str z from rp)
    exact ⟨signs z, .inr (.inr ⟨z, rfl, rfl, fun tk => hR _ _ fun O2 H2 g => ⟨rfl, Reps.signs z⟩⟩)⟩
  · obtain ⟨a, vs, rfl, t, r⟩ := rp
    exact ⟨vs, .inr (.inl ⟨a, rfl, t.sq, hR (.t a) vs fun O2 H2 g => ⟨(t.grow g jB).sq, Reps.grow g jB _ vs r⟩⟩)⟩
  · obtain ⟨a, vs, rfl, n, t, r⟩ := rp
    exact ⟨vs, .inl ⟨a, rfl, SqL.of t, hR (.l a) vs fun O2 H2 g => ⟨SqL.of (g.at jB n t).2, Reps.grow g jB _ vs r⟩⟩⟩
def numD : Nat → List D → List D
  | _, [] => []
  | n, d :: ds => .tup [.int (n : Nat), d] :: numD (n + 1) ds
theorem numD_get : ∀ (ds : List D) (n i : Nat), (numD n ds)[i]? = ds[i]?.map fun d => .tup [.int ((n + i : Nat)), d]
  | [], n, i => by simp [numD]
  | d :: ds, n, 0 => by simp [numD]
  | d :: ds, n, i + 1 => by
    simp only [numD, List.getElem?_cons_succ]
    rw [numD_get ds (n + 1) i, show n + 1 + i = n + (i + 1) by omega]
theorem numD_len : ∀ (ds : List D) (n : Nat), (numD n ds).length = ds.length
  | [], n => rfl
  | d :: ds, n => by simp [numD, numD_len ds]
/-- a new pair -/
theorem pair_new {T : Addr} {ob : Obj} {O2 : List Addr} {H2 : Hp} {d1 d2 : D} {x y : V} (g : ∃ j, JarAt c H2 j) (dom : ∀ a ∈ O2 ++ B, H2 a ≠ none) (hT : H2 T = none) (ho : ob.dict = none) (r1 : Rep c (O2 ++ B) H2 d1 x) (r2 : Rep c (O2 ++ B) H2 d2 y) :
    Ex c H2 (upd H2 T (.frz ob (.tup [x, y]))) ∧ Rep c (O2 ++ B) (upd H2 T (.frz ob (.tup [x, y]))) (.tup [d1, d2]) (.ref T) ∧ ∀ z ∈ c.Js, upd H2 T (.frz ob (.tup [x, y])) z = H2 z := by
  have e : ExS [] H2 (upd H2 T (.frz ob (.tup [x, y]))) := ExS.new hT
  refine ⟨ExS.mono (S := []) (fun _ z => nomatch z) e, ⟨T, [x, y], rfl, .inl ⟨fun z => dom T z hT, ob, upd_same, ho⟩, ⟨x, [y], rfl, Rep.exS (S := []) (fun _ z => nomatch z) e _ _ r1, ⟨y, [], rfl, Rep.exS (S := []) (fun _ z => nomatch z) e _ _ r2, rfl⟩⟩⟩, ?_⟩
  obtain ⟨j, hj⟩ := g
  intro z hz
  obtain ⟨hh, rfl⟩ := RC.mem_Js.mp hz
  rw [upd_ne (ne_of_none (hj hh) hT)]
theorem iter_enum {k : Kd} {ds : List D} {xs : List V} (h : KdR c B O H k ds xs) : IterOk c B O (IteF c.K k) (numD 0 ds) H := fun i O2 H2 g dom hj => by
  obtain ⟨t2, r2⟩ := h O2 H2 g
  refine ⟨fun hi => ?_, fun d x H3 hd hy => ?_, fun hi => ?_⟩
  · have hv : i < xs.length := by rw [← r2.len, ← numD_len ds 0]; exact hi
    exact ⟨xs, xs[i], t2, List.getElem?_eq_getElem hv⟩
  · obtain ⟨T, ob, x', rfl, hT, ho, rfl, hx⟩ := hy
    rw [numD_get] at hd
    cases q : ds[i]? with
    | none => rw [q] at hd; cases hd
    | some d' =>
      rw [q] at hd
      cases hd
      have rx := Reps.inj_get r2 q (hx xs t2)
      rw [Nat.zero_add]
      exact pair_new hj dom hT ho rfl rx
  · exact ⟨xs, t2, by rw [hi, numD_len, r2.len]⟩
def zipD : List D → List D → List D
  | d :: ds, e :: es => .tup [d, e] :: zipD ds es
  | _, _ => []
theorem zipD_get : ∀ (ds es : List D) (i : Nat) (d : D), (zipD ds es)[i]? = some d → ∃ x y, ds[i]? = some x ∧ es[i]? = some y ∧ d = .tup [x, y]
  | [], _, i, d, h => by simp [zipD] at h
  | _ :: _, [], i, d, h => by simp [zipD] at h
  | x :: ds, y :: es, 0, d, h => by simp [zipD] at h; exact ⟨x, y, rfl, rfl, h.symm⟩
  | x :: ds, y :: es, i + 1, d, h => by
    simp only [zipD, List.getElem?_cons_succ] at h ⊢
    exact zipD_get ds es i d h
theorem zipD_len : ∀ (ds es : List D), (zipD ds es).length = min ds.length es.length
  | [], _ => by simp [zipD]
  | _ :: _, [] => by simp [zipD]
  | x :: ds, y :: es => by simp [zipD, zipD_len ds es]; try omega
theorem iter_zip {k1 k2 : Kd} {ds es : List D} {xs ys : List V} (h1 : KdR c B O H k1 ds xs) (h2 : KdR c B O H k2 es ys) : IterOk c B O (ItzF c.K k1 k2) (zipD ds es) H := fun i O2 H2 g dom hj => by
  obtain ⟨t1, r1⟩ := h1 O2 H2 g
  obtain ⟨t2, r2⟩ := h2 O2 H2 g
  have l1 := r1.len
  have l2 := r2.len
  have lz := zipD_len ds es
  refine ⟨fun hi => ?_, fun d x H3 hd hy => ?_, fun hi => ?_⟩
  · exact ⟨xs, ys, xs[i]'(by omega), ys[i]'(by omega), t1, t2, List.getElem?_eq_getElem _, List.getElem?_eq_getElem _⟩
  · obtain ⟨T, ob, x', y', rfl, hT, ho, rfl, hx, hy⟩ := hy
    obtain ⟨d1, d2, q1, q2, rfl⟩ := zipD_get ds es i d hd
    exact pair_new hj dom hT ho (Reps.inj_get r1 q1 (hx xs t1)) (Reps.inj_get r2 q2 (hy ys t2))
  · exact ⟨xs, ys, t1, t2, by omega, by omega, by omega⟩
def dEnum : List D → M (List D)
  | [d] => match itemsD d with
    | some ds => ret (numD 0 ds)
    | none => stuck
  | _ => stuck
def dZip : List D → M (List D)
  | [d, e] => match itemsD d, itemsD e with
    | some ds, some es => ret (zipD ds es)
    | _, _ => stuck
  | _ => stuck
def mArgI (f : List D → M (List D)) (ml : Env → M (List D)) : Env → M (List D) := fun ρ => bnd (ml ρ) f
theorem mi_enum {elts : List Expr} {kk : Nat} {tpos p : Pos} {ml : Env → M (List D)} (hK : X.K = c.K) (hm : X.mg "enumerate" = none) (h : MA X c B W [e] ml) (hg : Gl X "enumerate" := by rfl) (hs0 : starEach [e] X.env = [(false, eval e X.env)] := by rfl) :
    MI X c B W (.Tuple elts kk tpos) (.Call (.Name "enumerate" p) [e] [] pos) (mArgI dEnum ml) :=
  pi_mono (pi_enumF hm h hg hs0) fun σ H R ⟨O, ρ, j, rel, out⟩ => rdA_bndI rel out fun ds j1 vs H1 rel1 rp out1 => by
    match ds, rp, out1 with
    | [d], rp, out1 =>
      obtain ⟨v, w, rfl, r1, r2⟩ := rp
      cases (show w = [] from r2)
      have out1 : OutI c B O W σ H1 R ((match itemsD d with
        | some ds => ret (numD 0 ds)
        | none => stuck : M (List D)) j1) := out1
      cases q : itemsD d with
      | none => rw [q] at out1; exact out1.elim
      | some ds =>
        rw [q] at out1
        obtain ⟨xs, hk⟩ := kdOf_of (R := fun k => R (IteF X.K k) H1) hK rel1.jB r1 q fun k xs hk => out1 _ H1 ExS.refl rel1.jar (hK ▸ iter_enum hk)
        exact ⟨v, xs, rfl, hk⟩
    | [], _, out1 => exact out1.elim
    | _ :: _ :: _, _, out1 => exact out1.elim
theorem mi_zip {elts : List Expr} {kk : Nat} {tpos p : Pos} {ml : Env → M (List D)} (hK : X.K = c.K) (hm : X.mg "zip" = none) (h : MA X c B W [a, b] ml) (hg : Gl X "zip" := by rfl)
    (hs : starEach [a, b] X.env = (false, eval a X.env) :: starEach [b] X.env := by rfl) (hpl : (backTo pos (starEach [b] X.env)).any (·.1) = false := by rfl) :
    MI X c B W (.Tuple elts kk tpos) (.Call (.Name "zip" p) [a, b] [] pos) (mArgI dZip ml) :=
  pi_mono (pi_zipF hm h hg hs hpl) fun σ H R ⟨O, ρ, j, rel, out⟩ => rdA_bndI rel out fun ds j1 vs H1 rel1 rp out1 => by
    match ds, rp, out1 with
    | [d, e], rp, out1 =>
      obtain ⟨v, w, rfl, r1, v2, w2, rfl, r2, r3⟩ := rp
      cases (show w2 = [] from r3)
      have out1 : OutI c B O W σ H1 R ((match itemsD d, itemsD e with
        | some ds, some es => ret (zipD ds es)
        | _, _ => stuck : M (List D)) j1) := out1
      cases q : itemsD d with
      | none => rw [q] at out1; exact out1.elim
      | some ds =>
        cases q2 : itemsD e with
        | none => rw [q, q2] at out1; exact out1.elim
        | some es =>
          rw [q, q2] at out1
          obtain ⟨ys, hk2⟩ : ∃ ys, ∀ (R2 : Kd → Prop), (∀ k, KdR c B O H1 k es ys → R2 k) → kdOf v2 H1 X.K ys R2 := by
            rw [hK]
            cases e <;> cases q2
            · cases (show v2 = .str _ from r2)
              exact ⟨_, fun R2 hR => .inr (.inr ⟨_, rfl, rfl, fun tk => hR _ fun O2 H2 g => ⟨rfl, Reps.signs _⟩⟩)⟩
            · obtain ⟨a, vs, rfl, t, r⟩ := r2
              exact ⟨vs, fun R2 hR => .inr (.inl ⟨a, rfl, t.sq, hR (.t a) fun O2 H2 g => ⟨(t.grow g rel1.jB).sq, Reps.grow g rel1.jB _ vs r⟩⟩)⟩
            · obtain ⟨a, vs, rfl, n, t, r⟩ := r2
              exact ⟨vs, fun R2 hR => .inl ⟨a, rfl, SqL.of t, hR (.l a) fun O2 H2 g => ⟨SqL.of (g.at rel1.jB n t).2, Reps.grow g rel1.jB _ vs r⟩⟩⟩
          obtain ⟨xs, hk⟩ := kdOf_of (R := fun k1 => kdOf v2 H1 X.K ys fun k2 => R (ItzF X.K k1 k2) H1) hK rel1.jB r1 q fun k xs hk => hk2 _ fun k2 h2 => out1 _ H1 ExS.refl rel1.jar (hK ▸ iter_zip hk h2)
          exact ⟨v, v2, xs, ys, rfl, hk⟩
    | [], _, out1 => exact out1.elim
    | [_], _, out1 => exact out1.elim
    | _ :: _ :: _ :: _, _, out1 => exact out1.elim
end
end Mir
set_option Elab.async false
set_option linter.all false
set_option maxRecDepth 100000
set_option maxHeartbeats 4000000
/-! Mir13: comprehensions of two clauses, while, sums of tuples by mirrors. -/
namespace Mir
open PySem L2
section
variable {X : Cx} {m : Md} {c : RC} {B O O' L : List Addr} {W : WX} {e a b : Expr} {me ma mb : Env → M D} {pos : Pos} {σ : St} {H H' : Hp} {Q : VK} {ρ : Env} {j : List Int} {D' : Ends} {st : Stmt} {sts : List Stmt}
/-! ### a list, a tuple, a text is walked -/
def iSeqA (K : PySem.W.Frag) (te : TE) : TI := fun σ H R => te σ H fun x H1 => (∃ a, x = .ref a ∧ (((∃ xs, SqL K H1 a xs) ∧ R (Itl K a) H1) ∨ ((∃ xs, SqT K H1 a xs) ∧ R (Itt K a) H1))) ∨ ∃ z, x = .str z ∧ R (Its z) H1
theorem pi_seqA {tg l : Expr} {te : TE} (hl : PE X l te) : PI X tg l (iSeqA X.K te) := by
  refine ⟨fun pins s σ H R I h => thn (hl.run pins s σ H _ I h) fun v s1 ⟨x, H1, I1, r1, q⟩ => ?_⟩
  rcases q with ⟨a, e, q⟩ | ⟨z, e, q⟩
  · have z : PI X tg l (iSeq X.K (fun σ H Q => Q x H1)) → True := fun _ => trivial
    subst e
    cases r1
    have fp : ∀ b ∈ [s1.heap.objs.size], FpOk X pins H1 b := fun b hb => by
      rw [show b = s1.heap.objs.size from by simpa using hb]
      exact I1.fpOk (Nat.le_refl _) (I1.hok.fresh (Nat.le_refl _))
    rcases q with ⟨⟨xs, hq⟩, q⟩ | ⟨⟨xs, hq⟩, q⟩
    · obtain ⟨its, rv, p, _⟩ := I1.list hq
      exact wpAny_pyIter_list p.isList ⟨_, [s1.heap.objs.size], _, Itl X.K a, H1, rfl, I1.kept (t' := s1.toks) fun b o e => Heap.get?_push_of_some _ e, turn_list a _, ⟨_, Heap.get?_push_size _ rfl, rfl, rfl⟩, fp, q⟩
    · obtain ⟨its, rv, p, _⟩ := I1.tuple hq
      exact wpAny_pyIter_tuple (show s1.heap.IsTuple a its.toArray from p) ⟨_, [s1.heap.objs.size], _, Itt X.K a, H1, rfl, I1.kept (t' := s1.toks) fun b o e => Heap.get?_push_of_some _ e, turn_tuple a _, ⟨_, Heap.get?_push_size _ rfl, rfl, rfl⟩, fp, q⟩
  · subst e
    obtain ⟨t, rfl⟩ := (show ∃ t, v = .str z t from r1)
    have fp : ∀ b ∈ [s1.heap.objs.size], FpOk X pins H1 b := fun b hb => by
      rw [show b = s1.heap.objs.size from by simpa using hb]
      exact I1.fpOk (Nat.le_refl _) (I1.hok.fresh (Nat.le_refl _))
    cases ha : z.cps.all (· < 128)
    · exact wpAny_pyIter_wide ha ⟨_, [s1.heap.objs.size], _, Its z, H1, rfl, I1.kept (t' := s1.toks) fun b o e => Heap.get?_push_of_some _ e, turn_str _ z t "str_iterator" (.inr rfl), ⟨_, Heap.get?_push_size _ rfl, rfl, rfl⟩, fp, q⟩
    · exact wpAny_pyIter_ascii ha ⟨_, [s1.heap.objs.size], _, Its z, H1, rfl, I1.kept (t' := s1.toks) fun b o e => Heap.get?_push_of_some _ e, turn_str _ z t "str_ascii_iterator" (.inl rfl), ⟨_, Heap.get?_push_size _ rfl, rfl, rfl⟩, fp, q⟩
theorem iter_str {z : Str} : IterOk c B O (Its z) (z.cps.toList.map fun x => .str ⟨#[x]⟩) H := fun i O2 H2 g _ _ => by
  have hl : (z.cps.toList.map fun x => D.str ⟨#[x]⟩).length = z.cps.size := by rw [List.length_map, Array.length_toList]
  refine ⟨fun hi => by rw [hl] at hi; exact hi, fun d x H3 hd hy => ?_, fun hi => by rw [hl] at hi; rw [hi]; exact Nat.le_refl _⟩
  obtain ⟨e, ch, h1, ex⟩ := hy
  subst e ex
  rw [List.getElem?_map, Array.getElem?_toList, h1] at hd
  cases hd
  exact ⟨ExS.refl, rfl, fun _ _ => rfl⟩
def dSeqA (d : D) : M (List D) := match itemsD d with
  | some ds => ret ds
  | none => stuck
def mSeqA (me : Env → M D) : Env → M (List D) := fun ρ => bnd (me ρ) dSeqA
theorem mi_seqA {tg : Expr} (hK : X.K = c.K) (h : ME X .keep c B W e me) : MI X c B W tg e (mSeqA me) :=
  pi_mono (pi_seqA h) fun σ H R ⟨O, ρ, j, rel, out⟩ => rd_bndI rel out fun d j1 v H1 rel1 e1 rp out1 => by
    cases d <;> first | exact out1.elim | skip
    · cases (show v = .str _ from rp)
      exact .inr ⟨_, rfl, out1 _ H1 ExS.refl rel1.jar iter_str⟩
    · obtain ⟨a, vs, rfl, t, r⟩ := rp
      exact .inl ⟨a, rfl, .inr ⟨⟨vs, hK ▸ t.sq⟩, out1 _ H1 ExS.refl rel1.jar (hK ▸ iter_tup rel1.jB t r)⟩⟩
    · obtain ⟨a, vs, rfl, n, t, r⟩ := rp
      exact .inl ⟨a, rfl, .inl ⟨⟨vs, SqL.of t⟩, out1 _ H1 ExS.refl rel1.jar (iter_list rel1.jB n t r)⟩⟩
/-! ### sum, max, min of a list or a tuple -/
theorem walks_tup {prog : Program} {w : World} {A : Around} (hh : A.handled = none) (I t : Addr) (hne : t ≠ I) (items : Array Value) : Walks prog w A I [I, t] [I] items.size (fun i v => items[i]? = some v) (fun i h => h.IsTupleIter I t i ∧ h.IsTuple t items) where
  sub := fun b hb => by simp at hb; simp [hb]
  frame := fun _ _ _ st hk => ⟨st.1.at fun o e => hk I (by simp) o e, st.2.at fun o e => hk t (by simp) o e⟩
  item := fun i s Q E hi st hQ => by
    refine wpAny_pyNext_tuple_item st.1 st.2 (x := items[i]) (by simp [hi]) fun h' hit' hs' => ?_
    exact hQ _ h' s.toks (by simp [hi]) ⟨hit', st.2.extBut hs'.extBut hne⟩ fun b o hb e => hs'.extBut b o (fun h => hb (by simp [h])) e
  done := fun s Q E st hQ => wpAny_pyNext_tuple_end hh st.1 st.2 (by simp) fun h' he' => hQ h' s.toks fun b o hb e => he' b o (fun h => hb (by simp [h])) e
  self := fun _ _ _ _ st hQ => wpAny_pyIter_tupleiter st.1 hQ
theorem iter_tupInts {prog : Program} {w : World} {A : Around} {E : Value → Shared → Prop} {s : Shared} {l : Addr} {items : Array Value} {Q : Value → Shared → Prop} (hl : s.heap.IsTuple l items)
    (h : ∀ s₂ : Shared, s₂ = { s with heap := s.heap.push { cls := .type "tuple_iterator", data := .fields #[.ref l, .int 0 0] } } → (s₂.heap.IsTupleIter s.heap.objs.size l 0 ∧ s₂.heap.IsTuple l items) → (∀ b ∈ [s.heap.objs.size, l], b < s₂.heap.objs.size) → l ≠ s.heap.objs.size →
      (∀ b o, s.heap.get? b = some o → s₂.heap.get? b = some o) → Q (.ref s.heap.objs.size) s₂) : wpAny (model prog w) A (pyIter (.ref l)) Q E s := by
  have hlt : l < s.heap.objs.size := by obtain ⟨_, e, _⟩ := hl; exact Heap.lt_size e
  refine wpAny_pyIter_tuple hl (h _ rfl ⟨⟨_, Heap.get?_push_size _ rfl, rfl, rfl⟩, hl.push _⟩ (fun b hb => ?_) (Nat.ne_of_lt hlt) fun b o e => Heap.get?_push_of_some _ e)
  show b < (s.heap.push _).objs.size
  rw [Heap.size_push]
  rcases List.mem_cons.mp hb with rfl | hb
  · exact Nat.lt_succ_self _
  · rcases List.mem_cons.mp hb with rfl | hb
    · exact Nat.lt_succ_of_lt hlt
    · cases hb
def rSumT (K : PySem.W.Frag) : List V → Hp → VK → Prop := fun vs H Q => ∃ (a : Addr) (ns : List Int), vs = [V.ref a] ∧ SqT K H a (ns.map V.int) ∧ Q (.int ns.sum) H
theorem cr_sumT (hc : X.calm = true) : CallR X (.builtin "sum") (rSumT X.K) := by
  intro pins s σ H vs us Q I r h
  obtain ⟨a, ns, rfl, hs, q⟩ := h
  obtain ⟨its, rv, hl, _⟩ := I.tuple hs
  rw [Vals.ref1 r]
  obtain ⟨xs, e⟩ := (Vals.ints rv).allInts.items
  have hn : numsOf (intItems xs).toList = ns := by rw [← e]; exact (Vals.ints rv).numsOf
  rw [nums_intItems] at hn
  rw [e] at hl
  have hs2 : (show Heap.IsTuple s.heap a (intItems xs) from hl) = hl := rfl
  refine call_sum_walkG (iter_tupInts (show s.heap.IsTuple a (intItems xs) from hl) fun s₂ e2 st hfp hlI hk0 => ?_)
  subst e2
  refine ⟨_, _, _, _, _, _, numAt xs, rfl, walks_tup (A := X.A.in1) (I.ok.hd hc) _ a hlI (intItems xs), st, hfp, (fun _ _ => intItems_at), fun h' tk t' hk => ?_⟩
  have hk' : ∀ b o, s.heap.get? b = some o → h'.get? b = some o := fun b o e => hk b o (fun z => by
    have z : b = s.heap.objs.size := by simpa using z
    exact absurd (Heap.lt_size e) (by rw [z]; exact Nat.lt_irrefl _)) (hk0 b o e)
  have e3 : preSum (numAt xs) (intItems xs).size = ns.sum := by
    rw [show (intItems xs).size = xs.size by simp [intItems], preSum_eq, List.take_of_length_le (by simp), hn]
  rw [e3]
  exact ⟨.int ns.sum, H, I.kept (t' := tk) hk', ⟨_, rfl⟩, q⟩
theorem old_of {s : Shared} {o0 : Obj} {h' : Heap} (hk0 : ∀ b o, s.heap.get? b = some o → (s.heap.push o0).get? b = some o) (hk : ∀ b o, b ∉ [s.heap.objs.size] → (s.heap.push o0).get? b = some o → h'.get? b = some o) : ∀ b o, s.heap.get? b = some o → h'.get? b = some o := fun b o e => hk b o (fun z => by
  have z : b = s.heap.objs.size := by simpa using z
  exact absurd (Heap.lt_size e) (by rw [z]; exact Nat.lt_irrefl _)) (hk0 b o e)
def rMaxT (K : PySem.W.Frag) : List V → Hp → VK → Prop := fun vs H Q => ∃ (a : Addr) (ns : List Int), vs = [V.ref a] ∧ SqT K H a (ns.map V.int) ∧ 0 < ns.length ∧ ∀ m, m ∈ ns → (∀ y, y ∈ ns → y ≤ m) → Q (.int m) H
def rMinT (K : PySem.W.Frag) : List V → Hp → VK → Prop := fun vs H Q => ∃ (a : Addr) (ns : List Int), vs = [V.ref a] ∧ SqT K H a (ns.map V.int) ∧ 0 < ns.length ∧ ∀ m, m ∈ ns → (∀ y, y ∈ ns → m ≤ y) → Q (.int m) H
theorem cr_maxT (hc : X.calm = true) : CallR X (.builtin "max") (rMaxT X.K) := by
  intro pins s σ H vs us Q I r h
  obtain ⟨a, ns, rfl, hs, hne, q⟩ := h
  obtain ⟨its, rv, hl, _⟩ := I.tuple hs
  rw [Vals.ref1 r]
  obtain ⟨xs, e⟩ := (Vals.ints rv).allInts.items
  have hn : numsOf (intItems xs).toList = ns := by rw [← e]; exact (Vals.ints rv).numsOf
  rw [nums_intItems] at hn
  subst hn
  rw [e] at hl
  have hsz : 0 < xs.size := by simpa using hne
  refine call_max_walk (iter_tupInts (show s.heap.IsTuple a (intItems xs) from hl) fun s₂ e2 st hfp hlI hk0 => ?_)
  subst e2
  refine ⟨_, _, _, _, _, _, _, rfl, walks_tup (A := X.A.in1) (I.ok.hd hc) _ a hlI (intItems xs), st, hfp, by simpa [intItems] using hsz, CmpOf.ints_gt (numAt xs) (fun _ _ => intItems_at), fun v h' tk hP hk => ?_⟩
  have hP : (intItems xs)[argBest (fun i j => decide (numAt xs i > numAt xs j)) (xs.size - 1)]? = some v := by simpa [intItems] using hP
  obtain ⟨t, rfl⟩ := intItems_at hP
  obtain ⟨h1, h2⟩ := argBest_gt (numAt xs) (xs.size - 1)
  refine ⟨.int _, H, I.kept (t' := tk) (old_of hk0 hk), ⟨_, rfl⟩, q _ ?_ fun y hy => ?_⟩
  · rw [numAt_eq]; exact PySem.getD_mem (by rw [List.length_map, Array.length_toList]; omega)
  · obtain ⟨i, hi, rfl⟩ := mem_getD hy
    rw [List.length_map, Array.length_toList] at hi
    rw [← numAt_eq]; exact h2 i (by omega)
theorem cr_minT (hc : X.calm = true) : CallR X (.builtin "min") (rMinT X.K) := by
  intro pins s σ H vs us Q I r h
  obtain ⟨a, ns, rfl, hs, hne, q⟩ := h
  obtain ⟨its, rv, hl, _⟩ := I.tuple hs
  rw [Vals.ref1 r]
  obtain ⟨xs, e⟩ := (Vals.ints rv).allInts.items
  have hn : numsOf (intItems xs).toList = ns := by rw [← e]; exact (Vals.ints rv).numsOf
  rw [nums_intItems] at hn
  subst hn
  rw [e] at hl
  have hsz : 0 < xs.size := by simpa using hne
  refine call_min_walk (iter_tupInts (show s.heap.IsTuple a (intItems xs) from hl) fun s₂ e2 st hfp hlI hk0 => ?_)
  subst e2
  refine ⟨_, _, _, _, _, _, _, rfl, walks_tup (A := X.A.in1) (I.ok.hd hc) _ a hlI (intItems xs), st, hfp, by simpa [intItems] using hsz, CmpOf.ints_lt (numAt xs) (fun _ _ => intItems_at), fun v h' tk hP hk => ?_⟩
  have hP : (intItems xs)[argBest (fun i j => decide (numAt xs i < numAt xs j)) (xs.size - 1)]? = some v := by simpa [intItems] using hP
  obtain ⟨t, rfl⟩ := intItems_at hP
  obtain ⟨h1, h2⟩ := argBest_lt (numAt xs) (xs.size - 1)
  refine ⟨.int _, H, I.kept (t' := tk) (old_of hk0 hk), ⟨_, rfl⟩, q _ ?_ fun y hy => ?_⟩
  · rw [numAt_eq]; exact PySem.getD_mem (by rw [List.length_map, Array.length_toList]; omega)
  · obtain ⟨i, hi, rfl⟩ := mem_getD hy
    rw [List.length_map, Array.length_toList] at hi
    rw [← numAt_eq]; exact h2 i (by omega)
def dSum : List D → M D
  | [.lst ds] => onInts ds fun is => ret (.int (sumI is))
  | [.tup ds] => onInts ds fun is => ret (.int (sumI is))
  | _ => stuck
theorem cr_sumA (hc : X.calm = true) : CallR X (.builtin "sum") fun vs H Q => rSum X.K vs H Q ∨ rSumT X.K vs H Q := CallR.or (cr_sum hc) (cr_sumT hc)
theorem ok_sum (hK : X.K = c.K) : OkC m c (fun vs H Q => rSum X.K vs H Q ∨ rSumT X.K vs H Q) dSum := by
  intro B O W ρ j σ H Q ds vs rel rp out
  unfold dSum at out
  split at out <;> first | exact out.elim | skip
  · obtain ⟨v, rfl, r⟩ := rp.one
    obtain ⟨a, vs, rfl, t, r⟩ := r.lst
    obtain ⟨is, _, rfl, o⟩ := onInts_out out r
    rw [sumI_eq] at o
    exact .inl ⟨a, is, rfl, SqL.of t, o.val rel rfl⟩
  · obtain ⟨v, rfl, r⟩ := rp.one
    obtain ⟨a, vs, rfl, t, r⟩ := r.tup
    obtain ⟨is, _, rfl, o⟩ := onInts_out out r
    rw [sumI_eq] at o
    exact .inr ⟨a, is, rfl, hK ▸ t, o.val rel rfl⟩
def bestI (f : Int → List Int → Int) : List Int → M D
  | [] => stuck
  | i :: r => ret (.int (f i r))
def dMax : List D → M D
  | [.lst ds] => onInts ds (bestI maxI)
  | [.tup ds] => onInts ds (bestI maxI)
  | [.int i, .int k] => ret (.int (if k > i then k else i))
  | _ => stuck
def dMin : List D → M D
  | [.lst ds] => onInts ds (bestI minI)
  | [.tup ds] => onInts ds (bestI minI)
  | [.int i, .int k] => ret (.int (if k < i then k else i))
  | _ => stuck
abbrev rMaxA (K : PySem.W.Frag) : List V → Hp → VK → Prop := fun vs H Q => rMax K vs H Q ∨ (rMaxT K vs H Q ∨ ∃ i j, vs = [.int i, .int j] ∧ Q (.int (if j > i then j else i)) H)
abbrev rMinA (K : PySem.W.Frag) : List V → Hp → VK → Prop := fun vs H Q => rMin K vs H Q ∨ (rMinT K vs H Q ∨ ∃ i j, vs = [.int i, .int j] ∧ Q (.int (if j < i then j else i)) H)
theorem cr_maxA (hc : X.calm = true) : CallR X (.builtin "max") (rMaxA X.K) := CallR.or (cr_max hc) (CallR.or (cr_maxT hc) (call_max2 hc))
theorem cr_minA (hc : X.calm = true) : CallR X (.builtin "min") (rMinA X.K) := CallR.or (cr_min hc) (CallR.or (cr_minT hc) (call_min2 hc))
theorem ok_max (hK : X.K = c.K) : OkC m c (rMaxA X.K) dMax := by
  intro B O W ρ j σ H Q ds vs rel rp out
  unfold dMax at out
  split at out <;> first | exact out.elim | skip
  · obtain ⟨v, rfl, r⟩ := rp.one
    obtain ⟨a, vs, rfl, t, r⟩ := r.lst
    obtain ⟨is, _, rfl, o⟩ := onInts_out out r
    cases is with
    | nil => exact o.elim
    | cons i is => exact .inl ⟨a, i :: is, rfl, SqL.of t, by simp, fun m' h1 h2 => by rw [max_uniq h1 h2 (maxI_mem i is) (maxI_ge i is)]; exact o.val rel rfl⟩
  · obtain ⟨v, rfl, r⟩ := rp.one
    obtain ⟨a, vs, rfl, t, r⟩ := r.tup
    obtain ⟨is, _, rfl, o⟩ := onInts_out out r
    cases is with
    | nil => exact o.elim
    | cons i is => exact .inr (.inl ⟨a, i :: is, rfl, hK ▸ t, by simp, fun m' h1 h2 => by rw [max_uniq h1 h2 (maxI_mem i is) (maxI_ge i is)]; exact o.val rel rfl⟩)
  · obtain ⟨v, w, rfl, r, r2⟩ := rp.two
    cases (show v = .int _ from r)
    cases (show w = .int _ from r2)
    exact .inr (.inr ⟨_, _, rfl, out.val rel rfl⟩)
theorem ok_min (hK : X.K = c.K) : OkC m c (rMinA X.K) dMin := by
  intro B O W ρ j σ H Q ds vs rel rp out
  unfold dMin at out
  split at out <;> first | exact out.elim | skip
  · obtain ⟨v, rfl, r⟩ := rp.one
    obtain ⟨a, vs, rfl, t, r⟩ := r.lst
    obtain ⟨is, _, rfl, o⟩ := onInts_out out r
    cases is with
    | nil => exact o.elim
    | cons i is => exact .inl ⟨a, i :: is, rfl, SqL.of t, by simp, fun m' h1 h2 => by rw [min_uniq h1 h2 (minI_mem i is) (minI_le i is)]; exact o.val rel rfl⟩
  · obtain ⟨v, rfl, r⟩ := rp.one
    obtain ⟨a, vs, rfl, t, r⟩ := r.tup
    obtain ⟨is, _, rfl, o⟩ := onInts_out out r
    cases is with
    | nil => exact o.elim
    | cons i is => exact .inr (.inl ⟨a, i :: is, rfl, hK ▸ t, by simp, fun m' h1 h2 => by rw [min_uniq h1 h2 (minI_mem i is) (minI_le i is)]; exact o.val rel rfl⟩)
  · obtain ⟨v, w, rfl, r, r2⟩ := rp.two
    cases (show v = .int _ from r)
    cases (show w = .int _ from r2)
    exact .inr (.inr ⟨_, _, rfl, out.val rel rfl⟩)
/-! ### while -/
def mWhile (fuel : Nat) (mt : Env → M Bool) (body : Env → M Fl) : Env → M Fl := match fuel with
  | 0 => fun _ => stuck
  | n + 1 => fun ρ => bnd (mt ρ) fun b => if b = true then bnd (body ρ) fun f => match f with
    | .nx ρ2 => mWhile n mt body ρ2
    | .ct ρ2 => mWhile n mt body ρ2
    | .bk ρ2 => ret (.nx ρ2)
    | .rt d => ret (.rt d)
    | .rtF d => ret (.rtF d)
    else ret (.nx ρ)
theorem ms_while {ct : Expr} {mt : Env → M Bool} {body : List Stmt} {mb : Env → M Fl} (fuel : Nat) (hp : PassesOwn (model X.prog X.w) X.A X.env X.xe) (ht : MT X c B W ct mt) (hb : MSs X c B W body mb) : MS X c B W (.While ct body [] pos) (mWhile fuel mt mb) :=
  ms_mono (ps_while hp ht hb) fun D σ H ⟨O, ρ, j, rel, out⟩ => by
    refine ⟨fun n σ2 H2 => ∃ O2 ρ2 j2, Grow c O H O2 H2 ∧ Rel c B O2 ρ2 j2 σ2 H2 ∧ OutS c B W D O2 H2 (mWhile n mt mb ρ2 j2), ⟨fuel, O, ρ, j, Grow.refl, rel, out⟩, ?_⟩
    rintro n σ2 H2 ⟨O2, ρ2, j2, g2, rel2, out2⟩
    cases n with
    | zero => exact out2.elim
    | succ n =>
      refine rdT_bndS (k := fun b => if b = true then bnd (mb ρ2) fun f => match f with
        | .nx ρ2 => mWhile n mt mb ρ2
        | .ct ρ2 => mWhile n mt mb ρ2
        | .bk ρ2 => ret (.nx ρ2)
        | .rt d => ret (.rt d)
        | .rtF d => ret (.rtF d)
        else ret (.nx ρ2)) rel2 out2 fun b j3 H3 rel3 e3 out3 => ?_
      cases b with
      | false => exact out3 O2 σ2 H3 Grow.refl rel3
      | true =>
        refine ⟨fun σ' H' => ∃ O4 ρ4 j4, Grow c O H O4 H' ∧ Rel c B O4 ρ4 j4 σ' H' ∧ OutS c B W D O4 H' (mWhile n mt mb ρ4 j4), fun σ' H' h => ⟨n, Nat.lt_succ_self n, h⟩, O2, ρ2, j3, rel3, ?_⟩
        have g3 := g2.trans (Grow.ex (O := O2) e3) rel3.jO
        have out3 : OutS c B W D O2 H3 (bnd (mb ρ2) (fun f => match f with
          | .nx ρ2 => mWhile n mt mb ρ2
          | .ct ρ2 => mWhile n mt mb ρ2
          | .bk ρ2 => ret (.nx ρ2)
          | .rt d => ret (.rt d)
          | .rtF d => ret (.rtF d)) j3) := out3
        unfold bnd at out3
        cases q2 : mb ρ2 j3 with
        | stk => rw [q2] at out3; exact out3.elim
        | exc k x j' => rw [q2] at out3; exact fun O' ρ' σ' H' dx v gg rr rp hd => out3 O' ρ' σ' H' dx v gg rr rp hd
        | ok f j5 =>
          rw [q2] at out3
          cases f with
          | nx ρ5 => exact fun O5 σ5 H5 g5 rel5 => ⟨O5, ρ5, j5, g3.trans g5 rel5.jO, rel5, OutS.grow g5 out3⟩
          | ct ρ5 => exact fun O5 σ5 H5 g5 rel5 => ⟨O5, ρ5, j5, g3.trans g5 rel5.jO, rel5, OutS.grow g5 out3⟩
          | bk ρ5 => exact fun O5 σ5 H5 g5 rel5 => out3 O5 σ5 H5 g5 rel5
          | rt d => exact fun O5 ρ' σ5 H5 v g5 rel5 rp5 => out3 O5 ρ' σ5 H5 v g5 rel5 rp5
          | rtF d => exact fun O5 ρ' σ5 H5 v g5 rel5 rp5 => out3 O5 ρ' σ5 H5 v g5 rel5 rp5
end
end Mir
set_option Elab.async false
set_option linter.all false
set_option maxRecDepth 100000
set_option maxHeartbeats 4000000
/-! Mir14: comprehensions of two clauses by mirrors. -/
namespace Mir
open PySem L2
section
variable {X : Cx} {m : Md} {c : RC} {B O O' L : List Addr} {W : WX} {e a b : Expr} {me ma mb : Env → M D} {pos : Pos} {σ : St} {H H' : Hp} {Q : VK} {ρ : Env} {j : List Int} {D' : Ends} {st : Stmt} {sts : List Stmt}
def mLc2L (mg : D → Env → M Env) (mt : Env → M Bool) (mi1 : Env → M (List D)) (mg1 : D → Env → M Env) (mt1 : Env → M Bool) (me : Env → M D) (vs1 : List Nat) : List D → Env → M (List D)
  | [], _ => ret []
  | d :: ds, ρ => bnd (nox (mg d ρ)) fun ρ1 => bnd (nox (mt ρ1)) fun b => if b = true then bnd (nox (mi1 ρ1)) fun es => bnd (mLcL mg1 mt1 me es (wipeE ρ1 vs1)) fun xs => bnd (mLc2L mg mt mi1 mg1 mt1 me vs1 ds ρ) fun ys => ret (xs ++ ys)
    else mLc2L mg mt mi1 mg1 mt1 me vs1 ds ρ
def fin2 (zs : List D) : M D := need (zs.length ≤ LIM) (ret (.lst zs))
def mComp2 (vs vs1 : List Nat) (mi : Env → M (List D)) (mg : D → Env → M Env) (mt : Env → M Bool) (mi1 : Env → M (List D)) (mg1 : D → Env → M Env) (mt1 : Env → M Bool) (me : Env → M D) : Env → M D :=
  fun ρ => bnd (mi ρ) fun ds => bnd (mLc2L mg mt mi1 mg1 mt1 me vs1 ds (wipeE ρ vs)) fin2
/-- a value lent to the outside is the def's own again -/
theorem Rel.shift {p : Addr} (rel : Rel c (p :: B) O ρ j σ H) (nB : p ∉ B) (jB : InJ c B) : Rel c B (p :: O) ρ j σ H where
  len := rel.len
  sl := fun k t w h1 h2 => by
    have q := rel.sl k t w h1 h2
    have sub : ∀ x ∈ (p :: O) ++ B, x ∈ O ++ p :: B := fun x hx => by
      rcases List.mem_append.mp hx with z | z
      · rcases List.mem_cons.mp z with z | z
        · rw [z]; exact List.mem_append_right _ List.mem_cons_self
        · exact List.mem_append_left _ z
      · exact List.mem_append_right _ (List.mem_cons_of_mem _ z)
    cases t with
    | no => trivial
    | val d => obtain ⟨v, e1, r⟩ := q; exact ⟨v, e1, Rep.sub sub d v r⟩
    | own ds => obtain ⟨a, vs, e1, mm, t, r⟩ := q; exact ⟨a, vs, e1, List.mem_cons_of_mem _ mm, t, Reps.sub sub ds vs r⟩
    | ownD ks ds => obtain ⟨a, vs, e1, mm, t, l, r⟩ := q; exact ⟨a, vs, e1, List.mem_cons_of_mem _ mm, t, l, Reps.sub sub ds vs r⟩
    | ownI k ns ds => obtain ⟨a, dx, vs, e1, mm, t, l, r⟩ := q; exact ⟨a, dx, vs, e1, List.mem_cons_of_mem _ mm, t, l, Reps.sub sub ds vs r⟩
  inj := rel.inj
  jar := rel.jar
  jB := jB
  dom := fun x hx => by
    rcases List.mem_append.mp hx with z | z
    · rcases List.mem_cons.mp z with z | z
      · exact rel.dom x (List.mem_append_right _ (z ▸ List.mem_cons_self))
      · exact rel.dom x (List.mem_append_left _ z)
    · exact rel.dom x (List.mem_append_right _ (List.mem_cons_of_mem _ z))
  disj := fun x hx z => by
    rcases List.mem_cons.mp hx with w | w
    · rw [w] at z; exact nB z
    · exact rel.disj x w (List.mem_cons_of_mem _ z)
/-- the invariant within: what is there, what is still to come -/
structure Lc2I (c : RC) (B O : List Addr) (σ : St) (vs : List Nat) (ρ : Env) (H1 : Hp) (p : Addr) (m : Md) (W : WX) (Q : VK) (rest : M (List D)) (H : Hp) : Prop where
  ex : ∃ (j : List Int) (acc : List V) (xs : List D), ExS (p :: c.Js) H1 H ∧ Rel c (p :: B) O (wipeE ρ vs) j (L2.wipe σ vs) H ∧ H p = some (.lst acc) ∧ Reps c (O ++ p :: B) H xs acc ∧
    Out m c (O ++ B) W σ H1 Q (bnd rest (fun ys => fin2 (xs ++ ys)) j)
theorem wipe_idem {vs : List Nat} {σ : St} : L2.wipe (L2.wipe σ vs) vs = L2.wipe σ vs := by
  have idem : ∀ l : List Nat, (∀ v ∈ l, v ∈ vs) → L2.wipe (L2.wipe σ vs) l = L2.wipe σ vs := fun l => by
    induction l with
    | nil => intro _; rfl
    | cons v l ih =>
      intro hv
      show (L2.wipe (L2.wipe σ vs) l).set v none = _
      rw [ih fun x hx => hv x (List.mem_cons_of_mem _ hx)]
      have hm := hv v List.mem_cons_self
      have key : ∀ l' : List Nat, v ∈ l' → (L2.wipe σ l').set v none = L2.wipe σ l' := fun l' => by
        induction l' with
        | nil => intro h; cases h
        | cons u l' ih' =>
          intro h
          show ((L2.wipe σ l').set u none).set v none = (L2.wipe σ l').set u none
          by_cases e : u = v
          · subst e; rw [List.set_set]
          · rw [List.set_comm _ _ e, ih' ((List.mem_cons.mp h).resolve_left (Ne.symm e))]
      exact key vs hm
  exact idem vs fun _ h => h
/-- whatever the outside is -/
def rdIAny (c : RC) (W : WX) (mi : Env → M (List D)) : TI := fun σ H R => ∃ B, rdI c B W mi σ H R
theorem pi_any {tg it : Expr} {mi : Env → M (List D)} (h : ∀ B, MI X c B W tg it mi) : PI X tg it (rdIAny c W mi) := ⟨fun pins s σ H R I ⟨B, hq⟩ => (h B).run pins s σ H R I hq⟩
/-- no exception comes of it -/
def Calm {α : Type} (m : M α) : Prop := ∀ j k g j', m j ≠ .exc k g j'
theorem calm_ret {α : Type} {a : α} : Calm (ret a) := fun _ _ _ _ h => nomatch h
theorem calm_nox {α : Type} {m : M α} : Calm (nox m) := fun j k g j' h => by
  unfold nox at h
  cases q : m j <;> rw [q] at h <;> cases h
theorem calm_bnd {α β : Type} {m : M α} {f : α → M β} (h : Calm m) (hf : ∀ a, Calm (f a)) : Calm (bnd m f) := fun j k g j' e => by
  unfold bnd at e
  cases q : m j with
  | ok a j1 => rw [q] at e; exact hf a j1 k g j' e
  | exc k1 g1 j1 => exact h _ _ _ _ q
  | stk => rw [q] at e; cases e
theorem calm_ite {α : Type} {p : Prop} [Decidable p] {a b : M α} (h1 : Calm a) (h2 : Calm b) : Calm (if p then a else b) := by
  split
  · exact h1
  · exact h2
theorem calm_lcL {mg : D → Env → M Env} {mt : Env → M Bool} {me : Env → M D} : ∀ (ds : List D) (ρ : Env), Calm (mLcL mg mt me ds ρ)
  | [], _ => calm_ret
  | d :: ds, ρ => calm_bnd calm_nox fun _ => calm_bnd calm_nox fun _ => calm_ite (calm_bnd calm_nox fun _ => calm_bnd (calm_lcL ds ρ) fun _ => calm_ret) (calm_lcL ds ρ)
theorem calm_lc2L {mg : D → Env → M Env} {mt : Env → M Bool} {mi1 : Env → M (List D)} {mg1 : D → Env → M Env} {mt1 : Env → M Bool} {vs1 : List Nat} : ∀ (ds : List D) (ρ : Env), Calm (mLc2L mg mt mi1 mg1 mt1 me vs1 ds ρ)
  | [], _ => calm_ret
  | d :: ds, ρ => calm_bnd calm_nox fun _ => calm_bnd calm_nox fun _ => calm_ite (calm_bnd calm_nox fun _ => calm_bnd (calm_lcL _ _) fun _ => calm_bnd (calm_lc2L ds ρ) fun _ => calm_ret) (calm_lc2L ds ρ)
theorem len_of_out {rest : M (List D)} {xs : List D} {d : D} {H1 : Hp} (hr : Calm rest) (h : Out m c L W σ H1 Q (bnd rest (fun ys => fin2 (xs ++ d :: ys)) j)) : xs.length < LIM := by
  unfold bnd at h
  cases q : rest j with
  | stk => rw [q] at h; exact h.elim
  | exc k g j' => exact (hr _ _ _ _ q).elim
  | ok ys j' =>
    rw [q] at h
    obtain ⟨h1, _⟩ := need_out (r := .stk) h
    simp at h1
    omega
section
variable {vs vs1 : List Nat} {mg mg1 : D → Env → M Env} {g g1 : TG} {mt mt1 : Env → M Bool} {mi mi1 : Env → M (List D)} {J : It} {ds es : List D} {p : Addr} {H0 : Hp}
theorem lc2_in (hK : X.K = c.K) (ng1 : NG X.K g1 mg1 vs1) {rest : M (List D)} (hr : Calm rest) {ρ4 : Env} {σ4 : St} {ρ0 : Env} {σ0 : St} {H4 : Hp} {j4 : List Int} {acc : List V} {xs : List D} {J1 : It} {H1 : Hp}
    (jB : InJ c B) (nB : p ∉ B) (nO : p ∉ O) (nJ : p ∉ c.Js) (it : IterOk c B (p :: O) J1 es H4) (rel4 : Rel c (p :: B) O ρ4 j4 σ4 H4) (rel0 : Rel c (p :: B) O ρ0 j4 σ0 H4) (ex4 : ExS (p :: c.Js) H1 H4) (hD : H4 p = some (.lst acc)) (rx : Reps c (O ++ p :: B) H4 xs acc)
    (out : Out m c (O ++ B) W σ H1 Q (bnd (mLcL mg1 mt1 me es (wipeE ρ4 vs1)) (fun ys1 => bnd rest fun ys2 => fin2 (xs ++ (ys1 ++ ys2))) j4))
    (Nx : Hp → Prop) (hN : ∀ (H : Hp) (j : List Int) (acc : List V) (xs : List D), ExS (p :: c.Js) H1 H → Rel c (p :: B) O ρ0 j σ0 H → H p = some (.lst acc) → Reps c (O ++ p :: B) H xs acc → Out m c (O ++ B) W σ H1 Q (bnd rest (fun ys2 => fin2 (xs ++ ys2)) j) → Nx H) :
    ∃ V1 : Nat → Nat → Hp → Prop, (∃ n, V1 0 n H4) ∧ ∀ i n H, V1 i n H → (J1.stop i H ∧ Nx H) ∨ (J1.go i H ∧ ∃ Nx1 : Hp → Prop, (∀ H', Nx1 H' → ∃ n', n' < n ∧ V1 (i + 1) n' H') ∧ ∀ x H', J1.yld i H x H' → g1 x (L2.wipe σ4 vs1) H' fun σ3 H5 => L2.wipe σ3 vs1 = L2.wipe σ4 vs1 ∧ rdTAny c noW mt1 σ3 H5 fun b H6 =>
        if b = true then rdAny .keep c noW me σ3 H6 fun y H7 => ∃ acc, H7 p = some (.lst acc) ∧ acc.length < sizeLine ∧ Nx1 (upd H7 p (.lst (acc ++ [y]))) else Nx1 H6) := by
  refine ⟨fun i n H => n = es.length - i ∧ i ≤ es.length ∧ ∃ (j : List Int) (acc : List V) (xs : List D), ExS (p :: c.Js) H4 H ∧ Rel c (p :: B) O (wipeE ρ4 vs1) j (L2.wipe σ4 vs1) H ∧ Rel c (p :: B) O ρ0 j σ0 H ∧ H p = some (.lst acc) ∧ Reps c (O ++ p :: B) H xs acc ∧
    Out m c (O ++ B) W σ H1 Q (bnd (mLcL mg1 mt1 me (es.drop i) (wipeE ρ4 vs1)) (fun ys1 => bnd rest fun ys2 => fin2 (xs ++ (ys1 ++ ys2))) j), ⟨es.length, by simp, Nat.zero_le _, j4, acc, xs, ExS.refl, rel4.wipe vs1, rel0, hD, rx, out⟩, ?_⟩
  rintro i n H2 ⟨rfl, hi, j2, acc2, xs2, ex2, rel2, rel02, hD2, rx2, out2⟩
  have g2 : Grow c (p :: O) H4 (p :: O) H2 := ⟨fun x o q z h => ex2 x o (by
    intro hx
    rcases List.mem_cons.mp hx with w | w
    · exact q (by rw [w]; exact List.mem_cons_self)
    · exact z w) h, fun x hx => .inl hx, fun x z h => by
    by_cases e : x = p
    · rw [e, hD2]; exact fun w => nomatch w
    · cases q : H4 x with
      | none => exact absurd q h
      | some o =>
        rw [ex2 x o (fun hx => (List.mem_cons.mp hx).elim e z) q]
        exact fun w => nomatch w⟩
  have relS := rel2.shift nB jB
  obtain ⟨go, yl, stop⟩ := it i (p :: O) H2 g2 relS.dom ⟨_, relS.jar⟩
  have sub : ∀ x ∈ O ++ p :: B, x ∈ (p :: O) ++ B := fun x hx => by
    rcases List.mem_append.mp hx with z | z
    · exact List.mem_append_left _ (List.mem_cons_of_mem _ z)
    · rcases List.mem_cons.mp z with z | z
      · rw [z]; exact List.mem_append_left _ List.mem_cons_self
      · exact List.mem_append_right _ z
  by_cases hlt : i < es.length
  · rw [List.drop_eq_getElem_cons hlt] at out2
    refine .inr ⟨go hlt, fun H3 => i + 1 ≤ es.length ∧ ∃ (j : List Int) (acc : List V) (xs : List D), ExS (p :: c.Js) H4 H3 ∧ Rel c (p :: B) O (wipeE ρ4 vs1) j (L2.wipe σ4 vs1) H3 ∧ Rel c (p :: B) O ρ0 j σ0 H3 ∧ H3 p = some (.lst acc) ∧ Reps c (O ++ p :: B) H3 xs acc ∧
      Out m c (O ++ B) W σ H1 Q (bnd (mLcL mg1 mt1 me (es.drop (i + 1)) (wipeE ρ4 vs1)) (fun ys1 => bnd rest fun ys2 => fin2 (xs ++ (ys1 ++ ys2))) j), fun H3 h3 => ⟨es.length - (i + 1), by omega, rfl, h3⟩, fun x H3 hy => ?_⟩
    obtain ⟨e3, rp3, hj⟩ := yl es[i] x H3 (by simp [hlt]) hy
    have j3 : JarAt c H3 j2 := rel2.jar.same hj
    have rel3 := rel2.ex e3 j3
    have rel03 := rel02.ex e3 j3
    have hD3 : H3 p = some (.lst acc2) := e3.at nJ hD2
    have ex3 : ExS (p :: c.Js) H4 H3 := ex2.trans (ExS.mono (fun x hx => List.mem_cons_of_mem _ hx) e3)
    have rx3 := Reps.ex (c := c) rel3.jL e3 rx2
    have out3 : Out m c (O ++ B) W σ H1 Q (bnd (bnd (nox (mg1 es[i] (wipeE ρ4 vs1))) fun ρ1 => bnd (nox (mt1 ρ1)) fun b => if b = true then bnd (nox (me ρ1)) fun x => bnd (mLcL mg1 mt1 me (es.drop (i + 1)) (wipeE ρ4 vs1)) fun xs => ret (x :: xs) else mLcL mg1 mt1 me (es.drop (i + 1)) (wipeE ρ4 vs1)) (fun ys1 => bnd rest fun ys2 => fin2 (xs2 ++ (ys1 ++ ys2))) j2) := out2
    rw [bnd_assoc] at out3
    unfold bnd nox at out3
    cases q : mg1 es[i] (wipeE ρ4 vs1) j2 with
    | stk => rw [q] at out3; exact out3.elim
    | exc k z j' => rw [q] at out3; exact out3.elim
    | ok ρ5 j5 =>
      rw [q] at out3
      have rp3' : Rep c (O ++ p :: B) H3 es[i] x := Rep.sub sub _ _ rp3
      refine ng1 c (p :: B) O (wipeE ρ4 vs1) j2 (L2.wipe σ4 vs1) H3 es[i] x ρ5 j5 _ hK rel3 rp3' q fun σ5 e5 rel5 w5 => ?_
      subst e5
      refine ⟨w5.trans wipe_idem, p :: B, O, ρ5, _, rel5, ?_⟩
      dsimp only at out3
      cases q2 : mt1 ρ5 j5 with
      | stk => rw [q2] at out3; exact out3.elim
      | exc k z j' => rw [q2] at out3; exact out3.elim
      | ok b6 j6 =>
        rw [q2] at out3
        intro H6 e6 hj6
        have rel6 := rel5.ex e6 hj6
        have ex6 : ExS (p :: c.Js) H4 H6 := ex3.trans (ExS.mono (fun x hx => List.mem_cons_of_mem _ hx) e6)
        have relw := rel3.ex e6 hj6
        have rel06 := rel03.ex e6 hj6
        have rx6 := Reps.ex (c := c) rel5.jL e6 rx3
        dsimp only at out3
        cases b6 with
        | false => exact ⟨hlt, j6, acc2, xs2, ex6, relw, rel06, e6.at nJ hD3, rx6, out3⟩
        | true =>
          refine ⟨p :: B, O, ρ5, j6, rel6, ?_⟩
          have out6 : Out m c (O ++ B) W σ H1 Q (bnd (bnd (nox (me ρ5)) fun x => bnd (mLcL mg1 mt1 me (es.drop (i + 1)) (wipeE ρ4 vs1)) fun xs => ret (x :: xs)) (fun ys1 => bnd rest fun ys2 => fin2 (xs2 ++ (ys1 ++ ys2))) j6) := out3
          rw [bnd_assoc] at out6
          unfold bnd nox at out6
          cases q6 : me ρ5 j6 with
          | stk => rw [q6] at out6; exact out6.elim
          | exc k z j' => rw [q6] at out6; exact out6.elim
          | ok d7 j7 =>
            rw [q6] at out6
            intro y H7 e7 hj7 rp7
            have ex7 : ExS (p :: c.Js) H4 H7 := ex6.trans (ExS.mono (fun x hx => List.mem_cons_of_mem _ hx) e7)
            have hD7 := e7.at nJ (e6.at nJ hD3)
            have out7 : Out m c (O ++ B) W σ H1 Q (bnd (bnd (mLcL mg1 mt1 me (es.drop (i + 1)) (wipeE ρ4 vs1)) fun xs => ret (d7 :: xs)) (fun ys1 => bnd rest fun ys2 => fin2 (xs2 ++ (ys1 ++ ys2))) j7) := out6
            rw [bnd_assoc] at out7
            have e8 : (fun x => bnd (ret (d7 :: x)) fun ys1 => bnd rest fun ys2 => fin2 (xs2 ++ (ys1 ++ ys2))) = fun ys1 => bnd rest fun ys2 => fin2 ((xs2 ++ [d7]) ++ (ys1 ++ ys2)) := by
              funext ys
              rw [bnd_ret]
              congr 1
              funext ys2
              simp
            rw [e8] at out7
            have hlen : acc2.length < LIM := by
              rw [← rx2.len]
              refine len_of_out (hr := calm_bnd (calm_lcL (mg := mg1) (mt := mt1) (me := me) (es.drop (i + 1)) (wipeE ρ4 vs1)) fun ys1 => calm_bnd hr fun ys2 => calm_ret (a := ys1 ++ ys2)) (d := d7) (m := m) (c := c) (L := O ++ B) (W := W) (σ := σ) (H1 := H1) (Q := Q) (j := j7) ?_
              rw [bnd_assoc]
              have e9 : (fun ys1 => bnd (bnd rest fun ys2 => ret (ys1 ++ ys2)) fun ys => fin2 (xs2 ++ d7 :: ys)) = fun ys1 => bnd rest fun ys2 => fin2 ((xs2 ++ [d7]) ++ (ys1 ++ ys2)) := by
                funext ys
                rw [bnd_assoc]
                congr 1
                funext ys2
                rw [bnd_ret]
                simp
              rw [e9]
              exact out7
            refine ⟨acc2, hD7, lim_lt hlen, hlt, j7, acc2 ++ [y], xs2 ++ [d7], ?_, (relw.ex e7 hj7).upd1 nJ, (rel06.ex e7 hj7).upd1 nJ, upd_same, ?_, out7⟩
            · exact ex7.trans fun z u nz hz => by
                rw [upd_ne (fun w => nz (by rw [w]; simp))]; exact hz
            · exact Reps.upd (List.mem_append_right _ List.mem_cons_self) ((Reps.ex (c := c) rel6.jL e7 rx6).app (Reps.one rp7))
  · have e : i = es.length := by omega
    subst e
    rw [List.drop_length] at out2
    refine .inl ⟨stop rfl, hN H2 j2 acc2 xs2 (ex4.trans ex2) rel02 hD2 rx2 ?_⟩
    exact out2
theorem lc2_core' (hK : X.K = c.K) (ng : NG X.K g mg vs) (ng1 : NG X.K g1 mg1 vs1) (it : IterOk c B O J ds H) (rel : Rel c B O ρ j σ H) (hp : H p = none)
    (out : Out m c (O ++ B) W σ H Q (bnd (mLc2L mg mt mi1 mg1 mt1 me vs1 ds (wipeE ρ vs)) fin2 j)) :
    ∃ V : Nat → Nat → Hp → Prop, (∃ n, V 0 n (upd H p (.lst []))) ∧ ∀ i n H2, V i n H2 → (J.stop i H2 ∧ Q (.ref p) H2) ∨ (J.go i H2 ∧ ∃ Nx : Hp → Prop, (∀ H', Nx H' → ∃ n', n' < n ∧ V (i + 1) n' H') ∧
      ∀ x H', J.yld i H2 x H' → g x (L2.wipe σ vs) H' fun σ2 H2 => L2.wipe σ2 vs = L2.wipe σ vs ∧ rdTAny c noW mt σ2 H2 fun b H3 =>
        if b = true then rdIAny c noW mi1 σ2 H3 fun J1 H4 => ∃ W1 : Nat → Nat → Hp → Prop, (∃ n, W1 0 n H4) ∧ ∀ k n H, W1 k n H → (J1.stop k H ∧ Nx H) ∨ (J1.go k H ∧ ∃ Nx1 : Hp → Prop, (∀ H', Nx1 H' → ∃ n', n' < n ∧ W1 (k + 1) n' H') ∧
          ∀ x H', J1.yld k H x H' → g1 x (L2.wipe σ2 vs1) H' fun σ3 H5 => L2.wipe σ3 vs1 = L2.wipe σ2 vs1 ∧ rdTAny c noW mt1 σ3 H5 fun b H6 =>
            if b = true then rdAny .keep c noW me σ3 H6 fun y H7 => ∃ acc, H7 p = some (.lst acc) ∧ acc.length < sizeLine ∧ Nx1 (upd H7 p (.lst (acc ++ [y]))) else Nx1 H6)
        else Nx H3) := by
  have nJ : p ∉ c.Js := rel.neJ hp
  have np : p ∉ O ++ B := rel.fresh hp
  have nB : p ∉ B := fun z => np (List.mem_append_right _ z)
  have nO : p ∉ O := fun z => np (List.mem_append_left _ z)
  refine ⟨fun i n H2 => n = ds.length - i ∧ i ≤ ds.length ∧ Lc2I c B O σ vs ρ H p m W Q (mLc2L mg mt mi1 mg1 mt1 me vs1 (ds.drop i) (wipeE ρ vs)) H2, ⟨ds.length, by simp, Nat.zero_le _, ⟨j, [], [], ?_, ?_, upd_same, rfl, out⟩⟩, ?_⟩
  · exact ExS.mono (S := []) (fun _ z => nomatch z) (ExS.new hp)
  · exact ((Rel.lend (H := upd H p (.lst [])) rel (ExS.new hp) (rel.ex (ExS.new hp) (rel.jar.new hp)) hp (by rw [upd_same]; exact fun z => nomatch z) nJ)).wipe vs
  rintro i n H2 ⟨rfl, hi, ⟨j2, acc, xs, ex2, rel2, hD, rx, out2⟩⟩
  have g2 : Grow c O H (p :: O) H2 := ⟨fun x o q z h => ex2 x o (by
    intro hx
    rcases List.mem_cons.mp hx with w | w
    · rw [w, hp] at h; cases h
    · exact z w) h, fun x hx => (List.mem_cons.mp hx).elim (fun e => .inr (e ▸ hp)) .inl, fun x z h => by
    cases q : H x with
    | none => exact absurd q h
    | some o =>
      rw [ex2 x o (fun hx => (List.mem_cons.mp hx).elim (fun w => by rw [w, hp] at q; cases q) z) q]
      exact fun w => nomatch w⟩
  have relS := rel2.shift nB rel.jB
  obtain ⟨go, yl, stop⟩ := it i (p :: O) H2 g2 relS.dom ⟨_, rel2.jar⟩
  have sub : ∀ x ∈ O ++ p :: B, x ∈ (p :: O) ++ B := fun x hx => by
    rcases List.mem_append.mp hx with z | z
    · exact List.mem_append_left _ (List.mem_cons_of_mem _ z)
    · rcases List.mem_cons.mp z with z | z
      · rw [z]; exact List.mem_append_left _ List.mem_cons_self
      · exact List.mem_append_right _ z
  by_cases hlt : i < ds.length
  · rw [List.drop_eq_getElem_cons hlt] at out2
    refine .inr ⟨go hlt, fun H3 => Lc2I c B O σ vs ρ H p m W Q (mLc2L mg mt mi1 mg1 mt1 me vs1 (ds.drop (i + 1)) (wipeE ρ vs)) H3, fun H3 h3 => ⟨ds.length - (i + 1), by omega, rfl, hlt, h3⟩, fun x H3 hy => ?_⟩
    obtain ⟨e3, rp3, hj⟩ := yl ds[i] x H3 (by simp [hlt]) hy
    have rel3 := rel2.ex e3 (rel2.jar.same hj)
    have hD3 : H3 p = some (.lst acc) := e3.at nJ hD
    have ex3 : ExS (p :: c.Js) H H3 := ex2.trans (ExS.mono (fun x hx => List.mem_cons_of_mem _ hx) e3)
    have rx3 := Reps.ex (c := c) rel3.jL e3 rx
    have out3 : Out m c (O ++ B) W σ H Q (bnd (bnd (nox (mg ds[i] (wipeE ρ vs))) fun ρ1 => bnd (nox (mt ρ1)) fun b => if b = true then bnd (nox (mi1 ρ1)) fun es => bnd (mLcL mg1 mt1 me es (wipeE ρ1 vs1)) fun xs => bnd (mLc2L mg mt mi1 mg1 mt1 me vs1 (ds.drop (i + 1)) (wipeE ρ vs)) fun ys => ret (xs ++ ys)
      else mLc2L mg mt mi1 mg1 mt1 me vs1 (ds.drop (i + 1)) (wipeE ρ vs)) (fun ys => fin2 (xs ++ ys)) j2) := out2
    rw [bnd_assoc] at out3
    unfold bnd nox at out3
    cases q : mg ds[i] (wipeE ρ vs) j2 with
    | stk => rw [q] at out3; exact out3.elim
    | exc k z j' => rw [q] at out3; exact out3.elim
    | ok ρ4 j4 =>
      rw [q] at out3
      refine ng c (p :: B) O (wipeE ρ vs) j2 (L2.wipe σ vs) H3 ds[i] x ρ4 j4 _ hK rel3 (Rep.sub sub _ _ rp3) q fun σ4 e4 rel4 w4 => ?_
      subst e4
      refine ⟨w4.trans wipe_idem, p :: B, O, ρ4, _, rel4, ?_⟩
      dsimp only at out3
      cases q2 : mt ρ4 j4 with
      | stk => rw [q2] at out3; exact out3.elim
      | exc k z j' => rw [q2] at out3; exact out3.elim
      | ok b5 j5 =>
        rw [q2] at out3
        intro H5 e5 hj5
        have rel5 := rel4.ex e5 hj5
        have ex5 : ExS (p :: c.Js) H H5 := ex3.trans (ExS.mono (fun x hx => List.mem_cons_of_mem _ hx) e5)
        have relw := rel3.ex e5 hj5
        have rx5 := Reps.ex (c := c) rel4.jL e5 rx3
        have hD5 := e5.at nJ hD3
        dsimp only at out3
        cases b5 with
        | false => exact ⟨⟨j5, acc, xs, ex5, relw, hD5, rx5, out3⟩⟩
        | true =>
          have out6 : Out m c (O ++ B) W σ H Q (bnd (bnd (nox (mi1 ρ4)) fun es => bnd (mLcL mg1 mt1 me es (wipeE ρ4 vs1)) fun xs => bnd (mLc2L mg mt mi1 mg1 mt1 me vs1 (ds.drop (i + 1)) (wipeE ρ vs)) fun ys => ret (xs ++ ys)) (fun ys => fin2 (xs ++ ys)) j5) := out3
          rw [bnd_assoc] at out6
          unfold bnd nox at out6
          refine ⟨B, p :: O, ρ4, j5, rel5.shift nB rel.jB, ?_⟩
          cases q6 : mi1 ρ4 j5 with
          | stk => rw [q6] at out6; exact out6.elim
          | exc k z j' => rw [q6] at out6; exact out6.elim
          | ok es j6 =>
            rw [q6] at out6
            intro J1 H6 e6 hj6 it1
            have rel6 := rel5.ex e6 hj6
            have ex6 : ExS (p :: c.Js) H H6 := ex5.trans (ExS.mono (fun x hx => List.mem_cons_of_mem _ hx) e6)
            have rx6 := Reps.ex (c := c) rel5.jL e6 rx5
            have out7 : Out m c (O ++ B) W σ H Q (bnd (bnd (mLcL mg1 mt1 me es (wipeE ρ4 vs1)) fun xs => bnd (mLc2L mg mt mi1 mg1 mt1 me vs1 (ds.drop (i + 1)) (wipeE ρ vs)) fun ys => ret (xs ++ ys)) (fun ys => fin2 (xs ++ ys)) j6) := out6
            rw [bnd_assoc] at out7
            have e8 : (fun x => bnd (bnd (mLc2L mg mt mi1 mg1 mt1 me vs1 (ds.drop (i + 1)) (wipeE ρ vs)) fun ys => ret (x ++ ys)) fun ys => fin2 (xs ++ ys)) = fun ys1 => bnd (mLc2L mg mt mi1 mg1 mt1 me vs1 (ds.drop (i + 1)) (wipeE ρ vs)) fun ys2 => fin2 (xs ++ (ys1 ++ ys2)) := by
              funext ys1
              rw [bnd_assoc]
              rfl
            rw [e8] at out7
            exact lc2_in hK ng1 (calm_lc2L _ _) rel.jB nB nO nJ it1 rel6 (relw.ex e6 hj6) ex6 (e6.at nJ hD5) rx6 out7 _ fun H8 j8 acc8 xs8 ex8 rel8 hD8 rx8 out8 => ⟨⟨j8, acc8, xs8, ex8, rel8, hD8, rx8, out8⟩⟩
  · have e : i = ds.length := by omega
    subst e
    rw [List.drop_length] at out2
    have out2 : Out m c (O ++ B) W σ H Q (fin2 (xs ++ []) j2) := out2
    rw [List.append_nil] at out2
    obtain ⟨_, out2⟩ := need_out (r := .stk) out2
    refine .inl ⟨stop rfl, out2 (.ref p) H2 (fun x o q h => ex2 x o (fun hx => ?_) h) rel2.jar (RepM.ofF rel.jL ⟨p, acc, rfl, np, hp, hD, Reps.sub (fun x hx => ?_) _ _ rx⟩)⟩
    · rcases List.mem_cons.mp hx with w | w
      · rw [w, hp] at h; cases h
      · exact q w
    · rcases List.mem_cons.mp hx with z | z
      · rw [z]; exact List.mem_append_right _ List.mem_cons_self
      · rcases List.mem_append.mp z with z | z
        · exact List.mem_append_left _ z
        · exact List.mem_append_right _ (List.mem_cons_of_mem _ z)
theorem tLc2_of (hK : X.K = c.K) (ng : NG X.K g mg vs) (ng1 : NG X.K g1 mg1 vs1) (h : rd m c B W (mComp2 vs vs1 mi mg mt mi1 mg1 mt1 me) σ H Q) :
    tLc2 (rdI c B W mi) g (rdTAny c noW mt) (rdIAny c noW mi1) g1 (rdTAny c noW mt1) (rdAny .keep c noW me) vs vs1 σ H Q := by
  obtain ⟨O, ρ, j, rel, out⟩ := h
  refine ⟨O, ρ, j, rel, ?_⟩
  unfold mComp2 bnd at out
  cases q : mi ρ j with
  | stk => rw [q] at out; exact out.elim
  | exc k x j' => rw [q] at out; exact out
  | ok ds j1 =>
    rw [q] at out
    intro J H1 e1 hj1 it p hp
    exact lc2_core' hK ng ng1 it (rel.ex e1 hj1) hp (Out.ex e1 rel.jar hj1 out)
end
theorem me_comp2 {elt tg iter tg1 iter1 : Expr} {ifs ifs1 : List Expr} {scope : Scope} {own : List (Str × Nat)} {vs1 : List Nat} {mi mi1 : Env → M (List D)} {mg mg1 : D → Env → M Env} {g g1 : TG} {mt mt1 : Env → M Bool} (hK : X.K = c.K) (hc : X.calm = true) (hN : X.N.Nodup) (hi : MI X c B W tg iter mi) (ok : BlkOk X.N X.env.scope scope own) (hv : ∀ i ∈ vs1, i ∈ own.map (·.2))
    (hg : ∀ (s : Shared) (H : Hp) (C : Addr) (cl : List (Str × Addr)) (fp : List Addr), PG (X.blk s H scope (compEnvC scope cl C X.env) fp) tg g) (ng : NG X.K g mg (own.map (·.2)))
    (ht : ∀ (s : Shared) (H : Hp) (C : Addr) (cl : List (Str × Addr)) (fp B : List Addr), MTs (X.blk s H scope (compEnvC scope cl C X.env) fp) c B noW ifs mt)
    (hi1 : ∀ (s : Shared) (H : Hp) (C : Addr) (cl : List (Str × Addr)) (fp B : List Addr), MI (X.blk s H scope (compEnvC scope cl C X.env) fp) c B noW tg1 iter1 mi1)
    (hg1 : ∀ (s : Shared) (H : Hp) (C : Addr) (cl : List (Str × Addr)) (fp : List Addr), PG (X.blk s H scope (compEnvC scope cl C X.env) fp) tg1 g1) (ng1 : NG X.K g1 mg1 vs1)
    (ht1 : ∀ (s : Shared) (H : Hp) (C : Addr) (cl : List (Str × Addr)) (fp B : List Addr), MTs (X.blk s H scope (compEnvC scope cl C X.env) fp) c B noW ifs1 mt1)
    (he : ∀ (s : Shared) (H : Hp) (C : Addr) (cl : List (Str × Addr)) (fp B : List Addr), ME (X.blk s H scope (compEnvC scope cl C X.env) fp) .keep c B noW elt me) (hs : ∀ x, foldedSetIterable iter X.env x = pure x := by intro _; rfl) (hs1 : ∀ env x, foldedSetIterable iter1 env x = pure x := by intro _ _; rfl) :
    ME X m c B W (.ListComp elt [⟨tg, iter, ifs, 0⟩, ⟨tg1, iter1, ifs1, 0⟩] scope pos) (mComp2 (own.map (·.2)) vs1 mi mg mt mi1 mg1 mt1 me) :=
  me_mono (pe_lc2 hc hN hi ok hv hg (fun s H C cl fp => pts_any (ht s H C cl fp)) (fun s H C cl fp => pi_any (hi1 s H C cl fp)) hg1 (fun s H C cl fp => pts_any (ht1 s H C cl fp)) (fun s H C cl fp => pe_any (he s H C cl fp)) hs hs1) fun σ H Q h => tLc2_of hK ng ng1 h
theorem ms_setComp2 {i : Nat} {y : Str} {py spos : Pos} {elt tg iter tg1 iter1 : Expr} {ifs ifs1 : List Expr} {scope : Scope} {own : List (Str × Nat)} {vs1 : List Nat} {mi mi1 : Env → M (List D)} {mg mg1 : D → Env → M Env} {g g1 : TG} {mt mt1 : Env → M Bool} (hK : X.K = c.K) (hc : X.calm = true) (hN : X.N.Nodup) (hi : MI X c B W tg iter mi) (ok : BlkOk X.N X.env.scope scope own) (hv : ∀ i ∈ vs1, i ∈ own.map (·.2))
    (hg : ∀ (s : Shared) (H : Hp) (C : Addr) (cl : List (Str × Addr)) (fp : List Addr), PG (X.blk s H scope (compEnvC scope cl C X.env) fp) tg g) (ng : NG X.K g mg (own.map (·.2)))
    (ht : ∀ (s : Shared) (H : Hp) (C : Addr) (cl : List (Str × Addr)) (fp B : List Addr), MTs (X.blk s H scope (compEnvC scope cl C X.env) fp) c B noW ifs mt)
    (hi1 : ∀ (s : Shared) (H : Hp) (C : Addr) (cl : List (Str × Addr)) (fp B : List Addr), MI (X.blk s H scope (compEnvC scope cl C X.env) fp) c B noW tg1 iter1 mi1)
    (hg1 : ∀ (s : Shared) (H : Hp) (C : Addr) (cl : List (Str × Addr)) (fp : List Addr), PG (X.blk s H scope (compEnvC scope cl C X.env) fp) tg1 g1) (ng1 : NG X.K g1 mg1 vs1)
    (ht1 : ∀ (s : Shared) (H : Hp) (C : Addr) (cl : List (Str × Addr)) (fp B : List Addr), MTs (X.blk s H scope (compEnvC scope cl C X.env) fp) c B noW ifs1 mt1)
    (he : ∀ (s : Shared) (H : Hp) (C : Addr) (cl : List (Str × Addr)) (fp B : List Addr), ME (X.blk s H scope (compEnvC scope cl C X.env) fp) .keep c B noW elt me) (hy : X.N[i]? = some y := by rfl) (hyl : X.env.scope.names.lookup y = some .local := by rfl)
    (hsw : swapsWith (.ListComp elt [⟨tg, iter, ifs, 0⟩, ⟨tg1, iter1, ifs1, 0⟩] scope pos) (some (.Name y py)) spos.line X.env = pure true := by exact sw_true rfl rfl rfl (by decide +kernel)) (hs : ∀ x, foldedSetIterable iter X.env x = pure x := by intro _; rfl) (hs1 : ∀ env x, foldedSetIterable iter1 env x = pure x := by intro _ _; rfl) :
    MS X c B W (.Assign [.Name y py] (.ListComp elt [⟨tg, iter, ifs, 0⟩, ⟨tg1, iter1, ifs1, 0⟩] scope pos) spos) (mSetO i (mComp2 (own.map (·.2)) vs1 mi mg mt mi1 mg1 mt1 me)) :=
  ms_mono (ps_setLc2 hc hN hy hyl hsw hi ok hv hg (fun s H C cl fp => pts_any (ht s H C cl fp)) (fun s H C cl fp => pi_any (hi1 s H C cl fp)) hg1 (fun s H C cl fp => pts_any (ht1 s H C cl fp)) (fun s H C cl fp => pe_any (he s H C cl fp)) hs hs1) fun D σ H ⟨O, ρ, j, rel, out⟩ => tLc2_of (m := .fresh) hK ng ng1 (rd_bndS0 rel out fun d j1 v H1 rel1 e1 rp out1 => by
    obtain ⟨O', g', r'⟩ := Rel.setSl (o := true) rel e1 rel1 (i := i) rp
    exact out1 O' _ H1 g' r')
end
end Mir
set_option Elab.async false
set_option linter.all false
set_option maxRecDepth 100000
set_option maxHeartbeats 4000000
/-! Mir15: defs that are run with no guard around them; repr; keywords. -/
namespace Mir
open PySem L2 PySem.Spec PyProof.Rows
theorem _root_.L2.Room.units65 {k : Nat} {A : Around} (r : Room k A) : A.units + 65 < cLine := by have := r.un; omega
/-- room, and no guard around -/
structure RoomG (k : Nat) (A : Around) : Prop where
  r : Room k A
  g : A.guards = some []
theorem RoomG.mono {i k : Nat} {A : Around} (x : RoomG k A) (h : i ≤ k) : RoomG i A := ⟨x.r.mono h, x.g⟩
/-- what a def promises where no guard is around -/
structure FnG (P : Program) (w : World) (K : PySem.W.Frag) (mg : Str → Option Value) (base : Heap) (CX : CXT) (k : Nat) (f : Addr) (fd : FuncData) (ps : List Str) (sp : Sp) : Prop where
  len : ∀ vs H Q E, sp vs H Q E → vs.length = ps.length
  run : ∀ (A : Around) (outer : List PySem.Env) (s : Shared) (H : Hp) (args : Args) (us : List Value) (vs : List V) (Q : VK) (E : XK), RoomG k A → Env0 P w K mg base A outer s H → BindsTo s fd args (ps.zip us) → Vals vs us → sp vs H Q E →
    codeAny (model P w) A (.call (.ref f) args) (CR CX outer P w H s Q E) s
theorem FnG.of {P : Program} {w : World} {K : PySem.W.Frag} {mg : Str → Option Value} {base : Heap} {CX : CXT} {k : Nat} {f : Addr} {fd : FuncData} {ps : List Str} {sp : Sp} (F : FnOk P w K mg base CX k f fd ps sp) : FnG P w K mg base CX k f fd ps sp :=
  ⟨F.len, fun A outer s H args us vs Q E hr => F.run A outer s H args us vs Q E hr.r⟩
theorem fn_ofG {CX : CXT} {P : Program} {w : World} {K : PySem.W.Frag} {mg : Str → Option Value} {base : Heap} {k : Nat} {f : Addr} {name qual : Str} {params : Arguments} {body : List Stmt} {scope : Scope} {dV kV doc pm cdv ct oc : Value} {an od : Option Addr}
    {osl : Array (Option Value)} {N ps : List Str} {sp : Sp} (lk : K.lookup f = some ⟨oc, od, .func (PySem.W.fnOf name qual params body scope dV kV doc pm an cdv ct), osl⟩) (hcd : PySem.W.codeIn K cdv qual = true) (S : FnScope N ps scope)
    (len : ∀ vs H Q E, sp vs H Q E → vs.length = ps.length)
    (hbody : ∀ (A : Around) (outer : List PySem.Env) (s : Shared) (H : Hp) (vs : List V) (Q : VK) (E : XK), RoomG k (A.deeper (envOfC qual scope s.heap.objs.size f cdv)) → sp vs H Q E →
      ∃ t, PSs (cxOf CX P w K mg base N qual scope f cdv A outer s H E) body t ∧ t { nx := fun _ H' => Q .non H', rt := Q } (L2.start N vs) H) :
    FnG P w K mg base CX (k + 1) f (PySem.W.fnOf name qual params body scope dV kV doc pm an cdv ct) ps sp :=
  ⟨len, fun A outer s H args us vs Q E hr e0 hb r hsp => by
    have KX : K.In s.heap := e0.mod.kin.keeps fun b o e => (e0.bs b o e).1
    have kinds : ∀ y ∈ ps.zip us, scope.names.lookup y.1 = some .local ∨ (scope.names.lookup y.1 = some .cell ∧ ((cellsFrom (s.heap.objs.size + 1) scope.names []).lookup y.1).isSome = true) := fun ⟨n, v⟩ hy =>
      (S.par n (List.of_mem_zip hy).1).elim .inl fun q => .inr ⟨q, PySem.W.cellsFrom_some _ _ _ (.inl q)⟩
    refine codeAny_call_function hr.r.depth (KX _ _ lk) rfl S.co S.gen rfl (PySem.W.codeRec_of KX hcd) (hb _ _ _ _ (wpAny_newFunctionEnv_cells S.kind kinds fun env he s1 x => ?_))
    cases he
    obtain ⟨t, ht, hq⟩ := hbody A outer s H vs Q E ⟨hr.r.deeper _, hr.g⟩ hsp
    have I := inv_start (CX := CX) (E := E) (cd := cdv) S hr.r.hd e0 (len _ _ _ _ hsp) r x
    refine ⟨(e0.mod.nolimit.keeps fun b o e => (e0.bs b o e).1).keeps x.toInCall.keep, codeAny_func (wpAny_mono (ht.run [] s1 (L2.start N vs) H _ I hq) (fun fl s' hs => ?_) fun e s' hs => hs)⟩
    have fin : ∀ {σ' : L2.St} {H' : Hp} {v : V} {u : Value}, Inv (cxOf CX P w K mg base N qual scope f cdv A outer s H E) [] σ' H' s' → RelV v u → Q v H' → CE outer P w H s Q u s' := fun J rv q => ⟨_, _, J.os, J.bare, J.base, J.hok, rv, q⟩
    match fl, hs with
    | .ret u, ⟨v, σ', H', J, rv, q⟩ => exact fin J rv q
    | .next, ⟨σ', H', J, q⟩ => exact fin (v := V.non) (u := Value.none) J rfl q
    | .brk, ⟨_, _, _, q⟩ => exact q.elim
    | .cont, ⟨_, _, _, q⟩ => exact q.elim⟩
section
variable {X : Cx} {m : Md} {c : RC} {B O O' L : List Addr} {W : WX} {e a b : Expr} {me ma mb : Mir.Env → M D} {pos : Pos} {σ : L2.St} {H H' : Hp} {Q : VK} {ρ : Mir.Env} {j : List Int} {D' : Ends} {st : Stmt} {sts : List Stmt}
theorem fn_okG {P : Program} {w : World} {K : PySem.W.Frag} {mg : Str → Option Value} {base : Heap} {x qual : Str} {st : Stmt} {f : Addr} {fd : FuncData} {N ps : List Str} {k : Nat} {ms : Mir.Env → M Fl} (F : Fun K x qual st f fd) (S : FnScope N ps (defScope st))
    (body : ∀ (cdv : Value) (A : Around) (outer : List PySem.Env) (s : Shared) (H : Hp) (E : XK) (B : List Addr), RoomG k (A.deeper (PyProof.Rows.envOfC qual (defScope st) s.heap.objs.size f cdv)) →
      MSs (cxOf (L2.CX P w) P w K mg base N qual (defScope st) f cdv A outer s H E) c B (fun cls d _ H => E cls d H) (defBody st) ms) :
    FnG P w K mg base (L2.CX P w) (k + 1) f fd ps (spD c ps.length (mDef N.length ms)) := by
  obtain ⟨oc, od, kV, doc, pm, an, cdv, ct, osl, rfl, lk, hcd⟩ := F.ex
  refine fn_ofG lk hcd S (fun vs H Q E h => h.1) fun A outer s H vs Q E hr h => ?_
  obtain ⟨_, L, j, ds, jL, dom, hj, r, out⟩ := h
  exact ⟨rdS c L (fun cls d _ H => E cls d H) ms, body cdv A outer s H E L hr, [], envOf N.length ds, j, rel_start jL dom hj r, def_out out⟩
/-- a def can be run from here -/
structure Runs (X : Cx) (f : Addr) (fd : FuncData) (ps : List Str) (sp : Sp) : Prop where
  len : ∀ vs H Q E, sp vs H Q E → vs.length = ps.length
  run : ∀ (s : Shared) (H : Hp) (args : Args) (us : List Value) (vs : List V) (Q : VK) (E : XK), Env0 X.prog X.w X.K X.mg X.base X.A X.stack s H → BindsTo s fd args (ps.zip us) → Vals vs us → sp vs H Q E →
    codeAny (model X.prog X.w) X.A (.call (.ref f) args) (CR (L2.CX X.prog X.w) X.stack X.prog X.w H s Q E) s
theorem runs_ok {k : Nat} {f : Addr} {fd : FuncData} {ps : List Str} {sp : Sp} (F : FnOk X.prog X.w X.K X.mg X.base (L2.CX X.prog X.w) k f fd ps sp) (hr : Room k X.A) : Runs X f fd ps sp := ⟨F.len, fun s H args us vs Q E => F.run X.A X.stack s H args us vs Q E hr⟩
theorem runs_g {k : Nat} {f : Addr} {fd : FuncData} {ps : List Str} {sp : Sp} (F : FnG X.prog X.w X.K X.mg X.base (L2.CX X.prog X.w) k f fd ps sp) (hr : RoomG k X.A) : Runs X f fd ps sp := ⟨F.len, fun s H args us vs Q E => F.run X.A X.stack s H args us vs Q E hr⟩
theorem run_r {pins : List (Addr × Obj)} {s : Shared} {f : Addr} {fd : FuncData} {ps : List Str} {sp : Sp} {E : XK} {args : List Value} {kws : List (Str × Value)} {us : List Value} {vs : List V} (R : Runs X f fd ps sp) (hb : BindsTo s fd ⟨args, kws⟩ (ps.zip us)) (hx : PassesAt (L2.CX X.prog X.w) X σ E)
    (I : Inv X pins σ H s) (r : Vals vs us) (h : sp vs H Q E) : wpAny (model X.prog X.w) X.A (call (.ref f) args kws) (EP X pins σ Q) X.xe s :=
  wpAny_call (codeAny_mono (R.run s H ⟨args, kws⟩ us vs Q E I.env0 hb r h) fun r s' hq => match r, hq with
    | .error e, hq => hx pins H s e s' I hq
    | .ok (.ret u), hq => I.after hq)
/-- a call by place -/
theorem me_callR {n : Nat} {f : Addr} {fd : FuncData} {ps : List Str} {fm : List D → M D} {x : Str} {p : Pos} {es : List Expr} {ml : Mir.Env → M (List D)} (R : Runs X f fd ps (spD c n fm)) (hm : X.mg x = some (.ref f)) (hk : PySem.W.keepIn X.K (.ref f) = true) (hb : Binds X.K fd ps []) (tk : Takes X W)
    (ha : MA X c B W (e :: es) ml) (hg : Gl X x := by rfl) (hd : (x == ("__debug__" : Str)) = false := by decide) (hst : starEach (e :: es) X.env = (false, eval e X.env) :: starEach es X.env := by rfl) (hpl : (backTo pos (starEach es X.env)).any (·.1) = false := by rfl) :
    ME X .keep c B W (.Call (.Name x p) (e :: es) [] pos) (mCall n fm ml) := by
  have P : PE X (.Call (.Name x p) (e :: es) [] pos) (tCallS (spD c n fm) (WE W) (rdA c B W ml)) := ⟨fun pins s σ H Q I h => wpAny_Call_Name_kw (ld_glob I hg hm (PySem.W.callWith_K (h₀ := X.base) I.ok.mod.kin hk (thn (ha.run pos pins s σ H _ I h) fun us s1 ⟨vs, H1, I1, r, q⟩ => ⟨I1.kIn, by
    have b := hb s1 us I1.kIn (by rw [List.append_nil, ← r.length]; exact R.len _ _ _ _ q)
    rw [List.append_nil] at b
    exact run_r R b (passAt tk σ) I1 r q⟩) hst hpl) hd)⟩
  exact me_mono P fun σ H Q ⟨O, ρ, j, rel, out⟩ => rdA_bnd (m' := .keep) rel out fun ds j1 vs H1 rel1 e1 rp out1 => call_sp rel1 rp (fun _ _ _ h => h) out1
/-- a call without arguments -/
theorem me_callR0 {f : Addr} {fd : FuncData} {fm : List D → M D} {x : Str} {p : Pos} (R : Runs X f fd [] (spD c 0 fm)) (hm : X.mg x = some (.ref f)) (hk : PySem.W.keepIn X.K (.ref f) = true) (hb : Binds X.K fd [] []) (tk : Takes X W)
    (hg : Gl X x := by rfl) (hd : (x == ("__debug__" : Str)) = false := by decide) : ME X .keep c B W (.Call (.Name x p) [] [] pos) (mCall 0 fm mNil) := by
  have P : PE X (.Call (.Name x p) [] [] pos) (tCallS (spD c 0 fm) (WE W) (rdA c B W mNil)) := ⟨fun pins s σ H Q I ⟨O, ρ, j, rel, out⟩ => wpAny_Call_Name_kw (ld_glob I hg hm (PySem.W.callWith_K0 I.kIn hk (by
    have b := hb s [] I.kIn rfl
    exact run_r (us := []) R b (passAt tk σ) I .nil (out [] H ExS.refl rel.jar rfl))) hd)⟩
  exact me_mono P fun σ H Q ⟨O, ρ, j, rel, out⟩ => rdA_bnd (m' := .keep) rel out fun ds j1 vs H1 rel1 e1 rp out1 => call_sp rel1 rp (fun _ _ _ h => h) out1
/-! ### calls with keywords -/
def permL {α : Type} (z : α) (π : List Nat) (l : List α) : List α := π.map fun i => (l[i]?).getD z
/-- how a call with nu values by place and the keywords ks binds -/
structure KwT (K : PySem.W.Frag) (fd : FuncData) (ps ks : List Str) (nu : Nat) (π : List Nat) : Prop where
  to : ∀ (s : Shared) (us ws : List Value), K.In s.heap → us.length = nu → ws.length = ks.length → BindsTo s fd ⟨us, ks.zip ws⟩ (ps.zip (permL .none π (us ++ ws)))
theorem vals_perm {π : List Nat} {xs : List V} {us : List Value} (r : Vals xs us) : Vals (permL .non π xs) (permL .none π us) := by
  induction π with
  | nil => exact .nil
  | cons i π ih =>
    refine .cons ?_ ih
    show L2.RelV ((xs[i]?).getD .non) ((us[i]?).getD .none)
    cases q : xs[i]? with
    | some x =>
      obtain ⟨u, h1, h2⟩ := r.get q
      rw [h1]
      exact h2
    | none =>
      have : us[i]? = none := by
        rw [List.getElem?_eq_none_iff] at q ⊢
        rw [← r.length]; exact q
      rw [this]
      rfl
theorem reps_perm {π : List Nat} {ds : List D} {vs : List V} (r : Reps c L H ds vs) : Reps c L H (permL .non π ds) (permL .non π vs) := by
  induction π with
  | nil => rfl
  | cons i π ih =>
    refine Reps.cons ?_ ih
    show Rep c L H ((ds[i]?).getD .non) ((vs[i]?).getD .non)
    cases q : ds[i]? with
    | some d =>
      obtain ⟨v, h1, h2⟩ := r.get q
      rw [h1]
      exact h2
    | none =>
      have : vs[i]? = none := by
        rw [List.getElem?_eq_none_iff] at q ⊢
        rw [← r.len]; exact q
      rw [this]
      exact (rfl : V.non = V.non)
abbrev MK (X : Cx) (c : RC) (B : List Addr) (W : WX) (kws : List Keyword) (mk : Mir.Env → M (List D)) : Prop := PK X kws (rdA c B W mk)
theorem pk_mono {kws : List Keyword} {t : TA} {ma : Mir.Env → M (List D)} (h : PK X kws t) (hh : ∀ σ H Q, rdA c B W ma σ H Q → t σ H Q) : MK X c B W kws ma := ⟨fun pos pins s σ H Q I hq => h.run pos pins s σ H Q I (hh σ H Q hq)⟩
theorem mk_nil : MK X c B W [] mNil := pk_mono pk_nil fun σ H Q ⟨O, ρ, j, rel, out⟩ => out [] H ExS.refl rel.jar rfl
theorem tCons_of {ml : Mir.Env → M (List D)} {Q : List V → Hp → Prop} (h : rdA c B W (mCons me ml) σ H Q) : tCons (rd .keep c B W me) (rdA c B W ml) σ H Q := by
  obtain ⟨O, ρ, j, rel, out⟩ := h
  unfold mCons at out
  refine ⟨O, ρ, j, rel, ?_⟩
  unfold bnd at out
  cases q : me ρ j with
  | ok d j1 =>
    rw [q] at out
    refine fun v H1 e1 hj1 rp1 => ⟨O, ρ, j1, rel.ex e1 hj1, ?_⟩
    cases q2 : ml ρ j1 with
    | ok ds j2 =>
      dsimp only at out
      rw [q2] at out
      exact fun vs H2 e2 hj2 rp2 => out (v :: vs) H2 (e1.trans e2) hj2 (Reps.cons (Rep.ex rel.jL e2 rp1) rp2)
    | exc k g j' =>
      dsimp only at out
      rw [q2] at out
      exact Out.ex (m := .keep) (Q := fun _ _ => True) e1 rel.jar hj1 (show Out .keep c (O ++ B) W σ H (fun _ _ => True) (.exc k g j') from out)
    | stk =>
      dsimp only at out
      rw [q2] at out; exact out
  | exc k g j' => rw [q] at out; exact out
  | stk => rw [q] at out; exact out
theorem mk_cons {nm : Option Str} {kpos : Pos} {kws : List Keyword} {mk : Mir.Env → M (List D)} (he : ME X .keep c B W e me) (hs : MK X c B W kws mk) : MK X c B W (⟨nm, e, kpos⟩ :: kws) (mCons me mk) := pk_mono (pk_cons he hs) fun _ _ _ h => tCons_of h
/-- the values by place, then those of the keywords, in the parameters' order -/
def mCallK (nu nk : Nat) (π : List Nat) (n : Nat) (f : List D → M D) (ml mk : Mir.Env → M (List D)) : Mir.Env → M D := fun ρ => bnd (ml ρ) fun ds => bnd (mk ρ) fun ks => need (ds.length = nu ∧ ks.length = nk ∧ π.length = n) (f (permL .non π (ds ++ ks)))
theorem Vals.app {xs ys : List V} {us ws : List Value} (r : Vals xs us) (q : Vals ys ws) : Vals (xs ++ ys) (us ++ ws) := r.append q
theorem callK_sp {nu nk n : Nat} {π : List Nat} {fm : List D → M D} {ml mk : Mir.Env → M (List D)} (h : rd .keep c B W (mCallK nu nk π n fm ml mk) σ H Q) :
    rdA c B W ml σ H fun vs H1 => rdA c B W mk σ H1 fun zs H2 => vs.length = nu ∧ zs.length = nk ∧ spD c n fm (permL .non π (vs ++ zs)) H2 Q (WE W σ) := by
  obtain ⟨O, ρ, j, rel, out⟩ := h
  refine rdA_bnd (m := .keep) (m' := .keep) (k := fun ds => bnd (mk ρ) fun ks => need (ds.length = nu ∧ ks.length = nk ∧ π.length = n) (fm (permL .non π (ds ++ ks)))) rel out fun ds j1 vs H1 rel1 e1 rp out1 => ?_
  refine rdA_bnd (m := .keep) (m' := .keep) (k := fun ks => need (ds.length = nu ∧ ks.length = nk ∧ π.length = n) (fm (permL .non π (ds ++ ks)))) rel1 out1 fun ks j2 zs H2 rel2 e2 rp2 out2 => ?_
  obtain ⟨⟨h1, h2, h3⟩, o⟩ := need_out (r := .stk) out2
  have r := (Reps.ex (c := c) rel.jL e2 rp).app rp2
  refine ⟨by rw [← rp.len]; exact h1, by rw [← rp2.len]; exact h2, ?_⟩
  refine call_sp rel2 (reps_perm (π := π) r) (fun _ _ _ h => h) ?_
  have l : (permL D.non π (ds ++ ks)).length = n := by unfold permL; rw [List.length_map]; exact h3
  rw [if_pos l]
  exact o
theorem me_callK {n nu : Nat} {ks : List Str} {π : List Nat} {f : Addr} {fd : FuncData} {ps : List Str} {fm : List D → M D} {x : Str} {p : Pos} {es : List Expr} {kws : List Keyword} {ml mk : Mir.Env → M (List D)} (R : Runs X f fd ps (spD c n fm)) (hm : X.mg x = some (.ref f)) (hk : PySem.W.keepIn X.K (.ref f) = true)
    (hb : KwT X.K fd ps ks nu π) (tk : Takes X W) (ha : MA X c B W (e :: es) ml) (hkw : MK X c B W kws mk) (hg : Gl X x := by rfl) (hd : (x == ("__debug__" : Str)) = false := by decide)
    (hall : (backToKw pos (keywordEach kws X.env)).all (·.1.isSome) = true := by rfl) (hks : (backToKw pos (keywordEach kws X.env)).filterMap (·.1) = ks := by rfl) (hst : starEach (e :: es) X.env = (false, eval e X.env) :: starEach es X.env := by rfl)
    (hpl : ((backTo pos (starEach (e :: es) X.env)).any (·.1) || (backToKw pos (keywordEach kws X.env)).any (·.1.isNone)) = false := by rfl) :
    ME X .keep c B W (.Call (.Name x p) (e :: es) kws pos) (mCallK nu ks.length π n fm ml mk) := by
  refine me_mono (t := fun σ H Q => rdA c B W ml σ H fun vs H1 => rdA c B W mk σ H1 fun zs H2 => vs.length = nu ∧ zs.length = ks.length ∧ spD c n fm (permL .non π (vs ++ zs)) H2 Q (WE W σ)) ⟨fun pins s σ H Q I h => ?_⟩ fun σ H Q h => callK_sp h
  refine wpAny_Call_Name_kw (ld_glob I hg hm ?_ hd)
  refine PySem.W.callWith_KW (h₀ := X.base) I.ok.mod.kin hk hall (thn (ha.run pos pins s σ H _ I h) fun us s1 ⟨vs, H1, I1, r, q⟩ => ?_) hpl hst
  refine thn (hkw.run pos pins s1 σ H1 _ I1 q) fun ws s2 ⟨zs, H2, I2, rz, l1, l2, q2⟩ => ⟨I2.kIn, ?_⟩
  rw [hks]
  exact run_r R (hb.to s2 us ws I2.kIn (by rw [← r.length]; exact l1) (by rw [← rz.length]; exact l2)) (passAt tk σ) I2 (vals_perm (r.append rz)) q2
theorem me_callK0 {n : Nat} {ks : List Str} {π : List Nat} {f : Addr} {fd : FuncData} {ps : List Str} {fm : List D → M D} {x : Str} {p : Pos} {kws : List Keyword} {mk : Mir.Env → M (List D)} (R : Runs X f fd ps (spD c n fm)) (hm : X.mg x = some (.ref f)) (hk : PySem.W.keepIn X.K (.ref f) = true)
    (hb : KwT X.K fd ps ks 0 π) (tk : Takes X W) (hkw : MK X c B W kws mk) (hg : Gl X x := by rfl) (hd : (x == ("__debug__" : Str)) = false := by decide)
    (hall : (backToKw pos (keywordEach kws X.env)).all (·.1.isSome) = true := by rfl) (hks : (backToKw pos (keywordEach kws X.env)).filterMap (·.1) = ks := by rfl)
    (hpl : ((backTo pos (starEach [] X.env)).any (·.1) || (backToKw pos (keywordEach kws X.env)).any (·.1.isNone)) = false := by rfl) :
    ME X .keep c B W (.Call (.Name x p) [] kws pos) (mCallK 0 ks.length π n fm mNil mk) := by
  refine me_mono (t := fun σ H Q => rdA c B W mNil σ H fun vs H1 => rdA c B W mk σ H1 fun zs H2 => vs.length = 0 ∧ zs.length = ks.length ∧ spD c n fm (permL .non π (vs ++ zs)) H2 Q (WE W σ)) ⟨fun pins s σ H Q I h => ?_⟩ fun σ H Q h => callK_sp h
  obtain ⟨O, ρ, j, rel, out⟩ := h
  have h := out [] H ExS.refl rel.jar rfl
  refine wpAny_Call_Name_kw (ld_glob I hg hm ?_ hd)
  refine PySem.W.callWith_KW0 (h₀ := X.base) I.ok.mod.kin hk hall (thn (hkw.run pos pins s σ H _ I h) fun ws s2 ⟨zs, H2, I2, rz, l1, l2, q2⟩ => ⟨I2.kIn, ?_⟩) hpl
  rw [hks]
  exact run_r R (hb.to s2 [] ws I2.kIn rfl (by rw [← rz.length]; exact l2)) (passAt tk σ) I2 (vals_perm rz) q2
/-! ### repr -/
mutual
theorem toPD_noDict : ∀ (d : D) (p : PyData), toPD d = some p → p.hasDict = false
  | .non, _, h => by cases h; simp only [PyData.hasDict]
  | .bl _, _, h => by cases h; simp only [PyData.hasDict]
  | .int _, _, h => by cases h; simp only [PyData.hasDict]
  | .str _, _, h => by cases h; simp only [PyData.hasDict]
  | .tup ds, p, h => by
    have h : (toPDs ds).map PyData.tuple = some p := h
    cases q : toPDs ds with
    | none => rw [q] at h; cases h
    | some ps => rw [q] at h; cases h; simp only [PyData.hasDict]; exact toPDs_noDict ds ps q
  | .lst ds, p, h => by
    have h : (toPDs ds).map PyData.list = some p := h
    cases q : toPDs ds with
    | none => rw [q] at h; cases h
    | some ps => rw [q] at h; cases h; simp only [PyData.hasDict]; exact toPDs_noDict ds ps q
  | .dK _ _, _, h => by cases h
  | .ins _ _ _, _, h => by cases h
  | .jar, _, h => by cases h
  | .set ns, _, h => by cases h
theorem toPDs_noDict : ∀ (ds : List D) (ps : List PyData), toPDs ds = some ps → PyData.hasDictAll ps = false
  | [], _, h => by cases h; simp only [PyData.hasDictAll]
  | d :: ds, ps, h => by
    have h : ((toPD d).bind fun p => (toPDs ds).map fun ps => p :: ps) = some ps := h
    cases q : toPD d with
    | none => rw [q] at h; cases h
    | some p =>
      cases q2 : toPDs ds with
      | none => rw [q, q2] at h; cases h
      | some qs =>
        rw [q, q2] at h
        cases h
        simp only [PyData.hasDictAll]
        rw [toPD_noDict d p q, toPDs_noDict ds qs q2]
        rfl
end
def reprD (d : D) : M D := match toPD d with
  | some p => need (p.showable = true ∧ p.depth ≤ 64 ∧ p.shown.length ≤ LIM) (ret (.str p.shown))
  | none => stuck
def dRepr : List D → M D
  | [.lst ds] => reprD (.lst ds)
  | [.tup ds] => reprD (.tup ds)
  | [.bl k] => ret (.str (if k then "True" else "False"))
  | [.non] => ret (.str "None")
  | _ => stuck
def rReprB (X : Cx) : List V → Hp → VK → Prop := fun vs H Q => (∃ k, vs = [.bl k] ∧ Q (.str (if k then "True" else "False")) H) ∨ (vs = [.non] ∧ Q (.str "None") H)
theorem cr_reprB : CallR X (.builtin "repr") (rReprB X) := by
  intro pins s σ H xs us Q I r h
  rcases h with ⟨k, rfl, q⟩ | ⟨rfl, q⟩
  · obtain ⟨u, rfl, ru⟩ := r.one
    cases ru
    exact PySem.P.repr_of_bool ⟨.str _, H, I.tok _, ⟨_, rfl⟩, q⟩
  · obtain ⟨u, rfl, ru⟩ := r.one
    cases ru
    exact PySem.P.repr_of_none ⟨.str _, H, I.tok _, ⟨_, rfl⟩, q⟩
def rReprA (X : Cx) : List V → Hp → VK → Prop := fun vs H Q => ∃ (a : Addr) (d : PyData), vs = [.ref a] ∧ Dp X.K H (.ref a) d ∧ d.hasDict = false ∧ d.showable = true ∧ d.depth ≤ 64 ∧ d.shown.length ≤ sizeLine ∧ Q (.str d.shown) H
theorem cr_reprA {k : Nat} (hr : RoomG k X.A) : CallR X (.builtin "repr") (rReprA X) := by
  intro pins s σ H vs us Q I r h
  obtain ⟨a, d, rfl, hd, hn, h1, h2, h3, q⟩ := h
  obtain ⟨u, rfl, ru⟩ := r.one
  cases (show u = .ref a from ru)
  obtain ⟨as, rd⟩ := Dp.reads I d (.ref a) (.ref a) hd rfl
  have un := hr.r.un
  exact repr_of_reads' rd h1 (PyData.noDict_hsm hn) hr.g (by omega) (fun b o e => e) (fun h' u tk hk => ⟨.str d.shown, H, I.kept (t' := tk) hk, ⟨u, rfl⟩, q⟩) h3
theorem reprD_out {d : D} {v : V} {K : PySem.W.Frag} (hK : K = c.K) (rel : Rel c B O ρ j σ H) (rp : RepB c (O ++ B) H d v) (out : Out m c (O ++ B) W σ H Q (reprD d j)) : ∃ p, Dp K H v p ∧ p.hasDict = false ∧ p.showable = true ∧ p.depth ≤ 64 ∧ p.shown.length ≤ sizeLine ∧ Q (.str p.shown) H := by
  unfold reprD at out
  cases q : toPD d with
  | none => rw [q] at out; exact out.elim
  | some p =>
    rw [q] at out
    obtain ⟨⟨h1, h2, h3⟩, o⟩ := need_out (r := .stk) out
    exact ⟨p, RepB.dp hK rp q, toPD_noDict d p q, h1, h2, lim_le h3, o.val rel rfl⟩
theorem cr_repr {k : Nat} (hr : RoomG k X.A) : CallR X (.builtin "repr") (fun vs H Q => rReprA X vs H Q ∨ rReprB X vs H Q) := CallR.or (cr_reprA hr) cr_reprB
theorem ok_repr (hK : X.K = c.K) : OkC m c (fun vs H Q => rReprA X vs H Q ∨ rReprB X vs H Q) dRepr := by
  intro B O W ρ j σ H Q ds vs rel rp out
  unfold dRepr at out
  split at out <;> first | exact out.elim | skip
  · obtain ⟨v, rfl, r⟩ := rp.one
    obtain ⟨p, h1, h2⟩ := reprD_out hK rel r out
    obtain ⟨a, _, rfl, _⟩ := r
    exact .inl ⟨a, p, rfl, h1, h2⟩
  · obtain ⟨v, rfl, r⟩ := rp.one
    obtain ⟨p, h1, h2⟩ := reprD_out hK rel r out
    obtain ⟨a, _, rfl, _⟩ := r
    exact .inl ⟨a, p, rfl, h1, h2⟩
  · obtain ⟨v, rfl, r⟩ := rp.one
    cases (show v = .bl _ from r)
    exact .inr (.inl ⟨_, rfl, out.val rel rfl⟩)
  · obtain ⟨v, rfl, r⟩ := rp.one
    cases (show v = .non from r)
    exact .inr (.inr ⟨rfl, out.val rel rfl⟩)
end
end Mir
set_option Elab.async false
set_option linter.all false
set_option maxRecDepth 100000
set_option maxHeartbeats 4000000
/-! Mir16: own classes: their fields, properties, methods, how an instance is made. -/
namespace Mir
open PySem L2 PySem.Spec PyProof.Rows
section
variable {X : Cx} {m : Md} {c : RC} {B O O' L : List Addr} {W : WX} {e a b o : Expr} {me ma mb mo : Mir.Env → M D} {pos apos : Pos} {σ : L2.St} {H H' : Hp} {Q : VK} {ρ : Mir.Env} {j : List Int} {D' : Ends} {st : Stmt} {sts : List Stmt}
/-! ### fields -/
def findF : List Str → List D → Str → Option D
  | n :: ns, d :: ds, x => if x = n then some d else findF ns ds x
  | _, _, _ => none
theorem lookup_cons2 {x n : Str} {v : V} {r : List (Str × V)} : List.lookup x ((n, v) :: r) = if x = n then some v else List.lookup x r := by
  by_cases h : x = n
  · subst h; simp [List.lookup]
  · have e : (x == n) = false := by simpa using h
    rw [if_neg h]; simp [List.lookup, e]
theorem Reps.findF : ∀ {ns : List Str} {ds : List D} {vs : List V} {x : Str} {d : D}, Reps c L H ds vs → Mir.findF ns ds x = some d → ∃ v, (ns.zip vs).lookup x = some v ∧ Rep c L H d v
  | [], _, _, x, d, _, e => by simp [Mir.findF] at e
  | n :: ns, [], _, x, d, _, e => by simp [Mir.findF] at e
  | n :: ns, d0 :: ds, _, x, d, h, e => by
    obtain ⟨v, r, rfl, h1, h2⟩ := h
    unfold Mir.findF at e
    rw [List.zip_cons_cons, lookup_cons2]
    by_cases q : x = n
    · rw [if_pos q] at e ⊢
      cases e
      exact ⟨v, rfl, h1⟩
    · rw [if_neg q] at e ⊢
      exact Reps.findF h2 e
/-- the classes whose instances have the name as a field -/
def FldT (c : RC) (known : List Nat) (f : Str) : Prop := ∀ k ∈ known, Cls c.K (c.cls k) ∧ NoAttr c.K (c.cls k) f
def dFld (known : List Nat) (f : Str) (d : D) : M D := match d with
  | .ins k ns ds => if k ∈ known then (match findF ns ds f with
    | some d => ret d
    | none => stuck) else stuck
  | _ => stuck
theorem RepB.ins {k : Nat} {ns : List Str} {ds : List D} {v : V} (h : RepB c L H (.ins k ns ds) v) : ∃ a dx vs, v = .ref a ∧ H a = some (.ins (c.cls k) dx (ns.zip vs)) ∧ ns.length = ds.length ∧ Reps c L H ds vs := let ⟨a, dx, vs, e1, _, t, l, r⟩ := h; ⟨a, dx, vs, e1, t, l, r⟩
theorem me_fld {f : Str} {known : List Nat} (hK : X.K = c.K) (T : FldT c known f) (he : ME X .look c B W e me) (hb : attributeBase e f X.env (eval e X.env) = eval e X.env := by rfl) : ME X .keep c B W (.Attribute e f pos) (mUn (dFld known f) me) :=
  me_mono (pe_fld he hb) fun σ H Q ⟨O, ρ, j, rel, out⟩ => rd_bnd rel out fun d j1 v H1 rel1 e1 rp out1 => by
    cases d <;> first | exact out1.elim | skip
    rename_i k ns ds
    obtain ⟨a, dx, vs, rfl, t, l, r⟩ := RepB.ins rp
    have out1 : Out .keep c (O ++ B) W σ H1 Q ((if k ∈ known then (match findF ns ds f with
      | some d => ret d
      | none => stuck) else stuck : M D) j1) := out1
    by_cases hk : k ∈ known
    · rw [if_pos hk] at out1
      obtain ⟨t1, t2⟩ := T k hk
      cases q : findF ns ds f with
      | none => rw [q] at out1; exact out1.elim
      | some d =>
        rw [q] at out1
        obtain ⟨w, h1, h2⟩ := r.findF q
        exact ⟨a, _, dx, _, w, rfl, t, hK ▸ t1, hK ▸ t2, h1, out1.kept rel1 h2⟩
    · rw [if_neg hk] at out1; exact out1.elim
/-- self.f = e, a new field -/
def mFset (i : Nat) (known : List Nat) (f : Str) (me : Mir.Env → M D) : Mir.Env → M Fl := fun ρ => match ρ[i]? with
  | some (.ownI k ns ds) => bnd (me ρ) fun d => if k ∈ known ∧ f ∉ ns ∧ ns.length < 900 then ret (.nx (ρ.set i (.ownI k (ns ++ [f]) (ds ++ [d])))) else stuck
  | _ => stuck
theorem putF_new {f : Str} {v : V} : ∀ {ns : List Str} {vs : List V}, ns.length = vs.length → f ∉ ns → putF f v (ns.zip vs) = (ns ++ [f]).zip (vs ++ [v])
  | [], [], _, _ => rfl
  | n :: ns, w :: vs, hl, hn => by
    rw [List.zip_cons_cons, List.cons_append, List.cons_append, List.zip_cons_cons]
    have ne : ¬ n = f := fun e => hn (e ▸ List.mem_cons_self)
    show (if n = f then _ else _) = _
    rw [if_neg ne, putF_new (by simpa using hl) fun z => hn (List.mem_cons_of_mem _ z)]
theorem ms_fset {i : Nat} {x f : Str} {p p' : Pos} {known : List Nat} (hK : X.K = c.K) (T : FldT c known f) (he : ME X .keep c B W e me) (hi : X.N[i]? = some x := by rfl) (hv : Vis X.env.scope x := by first | exact Or.inl rfl | exact Or.inr (Or.inl rfl) | exact Or.inr (Or.inr rfl))
    (hd : (x == ("__debug__" : Str)) = false := by decide) (hcd : (x == ("__classdict__" : Str)) = false := by decide) (hs : swapsWith e (some (.Attribute (.Name x p) f p')) pos.line X.env = pure false := by rfl) :
    MS X c B W (.Assign [.Attribute (.Name x p) f p'] e pos) (mFset i known f me) :=
  ms_mono (ps_fld (pe_var hi hv hd hcd) he hs) fun D σ H ⟨O, ρ, j, rel, out⟩ => by
    unfold mFset at out
    cases q : ρ[i]? with
    | none => rw [q] at out; exact out.elim
    | some s =>
      rw [q] at out
      cases s <;> first | exact out.elim | skip
      rename_i k ns ds
      have out : OutS c B W D O H (bnd (me ρ) (fun d => if k ∈ known ∧ f ∉ ns ∧ ns.length < 900 then ret (.nx (ρ.set i (.ownI k (ns ++ [f]) (ds ++ [d])))) else stuck) j) := out
      refine rd_bndS0 (m' := .keep) rel out fun d j1 v H1 rel1 e1 rp out1 => ?_
      by_cases h : k ∈ known ∧ f ∉ ns ∧ ns.length < 900
      · rw [if_pos h] at out1
        obtain ⟨h1, h2, h3⟩ := h
        obtain ⟨t1, t2⟩ := T k h1
        have hi' : i < σ.length := by rw [rel.len]; exact (List.getElem?_eq_some_iff.mp q).1
        obtain ⟨a, dx, vs, e2, aO, t, l, r⟩ := rel1.sl i _ σ[i] q (by simp [hi'])
        have es : σ[i]? = some (some (.ref a)) := by rw [List.getElem?_eq_getElem hi', e2]
        refine ⟨.ref a, es, a, _, dx, _, rfl, t, hK ▸ t1, hK ▸ t2, by rw [List.length_zip]; omega, ?_⟩
        have hl : ns.length = vs.length := l.1.trans r.len
        rw [putF_new hl h2]
        refine out1 O σ _ ((Grow.ex e1).trans (Grow.mut aO) rel1.jO) (rel1.mut q rfl rfl es aO ⟨a, dx, _, rfl, aO, upd_same, ⟨by rw [List.length_append, List.length_append, l.1]; rfl, l.2⟩, ?_⟩)
        exact Reps.upd (List.mem_append_left _ aO) (r.app (Reps.one rp))
      · rw [if_neg h] at out1; exact out1.elim
/-! ### properties and methods -/
/-- a class's property: its number, what its getter makes of the instance -/
structure PropT (X : Cx) (c : RC) (f : Str) (k : Nat) (fm : List D → M D) : Prop where
  ex : ∃ (n : Nat) (p g : Addr) (fd : FuncData) (ps : List Str), Cls X.K (c.cls k) ∧ PropOf X.K (c.cls k) f p g ∧ FnOk X.prog X.w X.K X.mg X.base (L2.CX X.prog X.w) n g fd ps (spD c 1 fm) ∧ Room (n + 1) X.A ∧ Binds X.K fd ps []
def dPropL (k : Nat) (d : D) : List (Nat × (List D → M D)) → M D
  | [] => stuck
  | (k', fm) :: r => if k = k' then nox (fm [d]) else dPropL k d r
def dProp (L' : List (Nat × (List D → M D))) (d : D) : M D := match d with
  | .ins k ns ds => dPropL k (.ins k ns ds) L'
  | _ => stuck
theorem dProp_out {k : Nat} {d : D} : ∀ {L' : List (Nat × (List D → M D))}, Out m c L W σ H Q (dPropL k d L' j) → ∃ fm, (k, fm) ∈ L' ∧ Out m c L W σ H Q (nox (fm [d]) j)
  | [], h => h.elim
  | (k', fm) :: r, h => by
    have h2 : Out m c L W σ H Q ((if k = k' then nox (fm [d]) else dPropL k d r) j) := h
    by_cases q : k = k'
    · rw [if_pos q] at h2
      exact ⟨fm, by rw [q]; exact List.mem_cons_self, h2⟩
    · rw [if_neg q] at h2
      obtain ⟨fm', h3, h4⟩ := dProp_out h2
      exact ⟨fm', List.mem_cons_of_mem _ h3, h4⟩
theorem nox_keep {f : M D} (h : Out m c L W σ H Q (nox f j)) : ∃ d j', f j = .ok d j' ∧ Out m c L W σ H Q (.ok d j') := by
  unfold nox at h
  cases q : f j with
  | ok d j' => rw [q] at h; exact ⟨d, j', rfl, h⟩
  | exc k g j' => rw [q] at h; exact h.elim
  | stk => rw [q] at h; exact h.elim
theorem me_prop {f : Str} {L' : List (Nat × (List D → M D))} (T : ∀ p ∈ L', PropT X c f p.1 p.2) (he : ME X .keep c B W e me) (hb : attributeBase e f X.env (eval e X.env) = eval e X.env := by rfl) : ME X .keep c B W (.Attribute e f pos) (mUn (dProp L') me) := by
  refine me_mono (t := fun σ H Q => rd .keep c B W me σ H fun x H1 => ∃ a dx fs k fm, x = .ref a ∧ (k, fm) ∈ L' ∧ H1 a = some (.ins (c.cls k) dx fs) ∧ spD c 1 fm [.ref a] H1 Q E0) ⟨fun pins s σ H Q I h => ?_⟩ fun σ H Q ⟨O, ρ, j, rel, out⟩ => rd_bnd rel out fun d j1 v H1 rel1 e1 rp out1 => ?_
  · refine attr_of hb (thn (he.run pins s σ H _ I h) fun u s1 ⟨x, H1, I1, rx, a, dx, fs, k, fm, ex, hm, ea, q⟩ => ?_)
    subst ex
    cases (show u = Value.ref a from rx)
    obtain ⟨n, p, g, fd, ps, t1, t2, t3, t4, t5⟩ := (T _ hm).ex
    exact getprop_ok I1 ea t1 t2 t3 t4 t5 .nil (passL (X := X.nox)) q
  · cases d <;> first | exact out1.elim | skip
    rename_i k ns ds
    obtain ⟨fm, hm, o⟩ := dProp_out out1
    obtain ⟨d, j', q, o⟩ := nox_keep o
    have rp' := rp
    obtain ⟨a, dx, vs, rfl, n, t, l, r⟩ := rp
    refine ⟨a, dx, _, k, fm, rfl, hm, t, rfl, O ++ B, j1, [.ins k ns ds], rel1.jL, rel1.dom, rel1.jar, ⟨_, [], rfl, rp', rfl⟩, ?_⟩
    rw [q]
    exact o
/-! ### an instance is made -/
/-- behind __init__ of the instance at x -/
def OutN (c : RC) (x : Addr) (L : List Addr) (H : Hp) (Q : VK) (E : XK) : Res D → Prop
  | .ok (.ins k ns fs) j => ∀ (H' : Hp) (dx : Addr) (vs : List V), (∀ a o, a ≠ x → a ∉ c.Js → H a = some o → H' a = some o) → JarAt c H' j → H' x = some (.ins (c.cls k) dx (ns.zip vs)) → ns.length = fs.length → Reps c (x :: L) H' fs vs → Q .non H'
  | .exc k g j => ∀ (dx : Addr) (H' : Hp) (v : V), (∀ a o, a ≠ x → a ∉ c.Js → H a = some o → H' a = some o) → JarAt c H' j → Rep c L H' g v → H' dx = some (.xd [(c.att k, v)]) → E (.ref (c.cls k)) (some dx) H'
  | _ => False
/-- what __init__ of class k is worth -/
def spI (c : RC) (k n : Nat) (g : List D → M D) : Sp := fun vs H Q E => vs.length = n ∧ ∃ (x dx : Addr) (ws : List V) (L : List Addr) (j : List Int) (ds : List D), vs = .ref x :: ws ∧ InJ c L ∧ x ∉ L ∧ (∀ a ∈ L, H a ≠ none) ∧ JarAt c H j ∧ H x = some (.ins (c.cls k) dx []) ∧ Reps c (x :: L) H ds ws ∧
  OutN c x L H Q E (g ds j)
def slot0 (ρ : Mir.Env) : M D := match ρ with
  | .ownI k ns fs :: _ => ret (.ins k ns fs)
  | _ => stuck
def mInit (k n : Nat) (ms : Mir.Env → M Fl) : List D → M D := fun ds => bnd (ms (.ownI k [] [] :: envOf (n - 1) ds)) fun f => match f with
  | .nx ρ => slot0 ρ
  | _ => stuck
/-- the context, the instance under construction told -/
def RC.at (c : RC) (x : Addr) : RC := { c with S := x }
mutual
theorem Rep.at {x : Addr} : ∀ (d : D) (v : V), Rep c L H d v → Rep (c.at x) L H d v
  | .non, _, h => h
  | .bl _, _, h => h
  | .int _, _, h => h
  | .str _, _, h => h
  | .tup ds, _, h => by obtain ⟨a, vs, e1, t, r⟩ := h; exact ⟨a, vs, e1, t, Reps.at ds vs r⟩
  | .lst ds, _, h => by obtain ⟨a, vs, e1, n, t, r⟩ := h; exact ⟨a, vs, e1, n, t, Reps.at ds vs r⟩
  | .dK ks ds, _, h => by obtain ⟨a, vs, e1, n, t, l, r⟩ := h; exact ⟨a, vs, e1, n, t, l, Reps.at ds vs r⟩
  | .ins k ns ds, _, h => by obtain ⟨a, dx, vs, e1, n, t, l, r⟩ := h; exact ⟨a, dx, vs, e1, n, t, l, Reps.at ds vs r⟩
  | .jar, _, h => h
  | .set ns, _, h => h
  | .scr ns, _, h => h
theorem Reps.at {x : Addr} : ∀ (ds : List D) (vs : List V), Reps c L H ds vs → Reps (c.at x) L H ds vs
  | [], _, h => h
  | d :: ds, _, h => by obtain ⟨v, r, e1, h1, h2⟩ := h; exact ⟨v, r, e1, Rep.at d v h1, Reps.at ds r h2⟩
end
theorem RC.at_at {x : Addr} : (c.at x).at c.S = c := rfl
theorem Rep.un {x : Addr} {d : D} {v : V} (h : Rep (c.at x) L H d v) : Rep c L H d v := by
  have q := Rep.at (x := c.S) d v h
  rw [RC.at_at] at q
  exact q
theorem Reps.un {x : Addr} {ds : List D} {vs : List V} (h : Reps (c.at x) L H ds vs) : Reps c L H ds vs := by
  have q := Reps.at (x := c.S) ds vs h
  rw [RC.at_at] at q
  exact q
theorem rel_startI {k : Nat} {N : List Str} {ds : List D} {ws : List V} {x dx : Addr} (hS : c.S = x) (hN : 0 < N.length) (jL : InJ c L) (xL : x ∉ L) (dom : ∀ a ∈ L, H a ≠ none) (hj : JarAt c H j) (hx : H x = some (.ins (c.cls k) dx [])) (r : Reps c (x :: L) H ds ws) :
    Rel c L [x] (.ownI k [] [] :: envOf (N.length - 1) ds) j (L2.start N (.ref x :: ws)) H := by
  have hl := r.len
  have es : L2.start N (.ref x :: ws) = some (.ref x) :: (ws.map some ++ List.replicate (N.length - 1 - ws.length) none) := by
    unfold L2.start
    rw [List.map_cons, List.cons_append, List.length_cons, show N.length - (ws.length + 1) = N.length - 1 - ws.length by omega]
  have get : ∀ (i : Nat) (s : Sl) (o : Option V), (envOf (N.length - 1) ds)[i]? = some s → (ws.map some ++ List.replicate (N.length - 1 - ws.length) (none : Option V))[i]? = some o → SlR c ([x] ++ L) [x] H s o ∧ s.isOwn = false := fun i s o h1 h2 => by
    unfold envOf at h1
    by_cases q : i < ds.length
    · rw [List.getElem?_append_left (by simpa using q), List.getElem?_map] at h1
      rw [List.getElem?_append_left (by simpa [← hl] using q), List.getElem?_map] at h2
      rw [List.getElem?_eq_getElem q] at h1
      cases h1
      obtain ⟨v, hv, rp⟩ := r.get (i := i) (d := ds[i]) (by simp [q])
      rw [hv] at h2
      cases h2
      exact ⟨⟨v, rfl, rp⟩, rfl⟩
    · rw [List.getElem?_append_right (by simpa using q)] at h1
      have z := (List.getElem?_eq_some_iff.mp h1).2
      rw [List.getElem_replicate] at z
      subst z
      exact ⟨trivial, rfl⟩
  rw [es]
  refine ⟨by simp [envOf, hl], fun i s o h1 h2 => ?_, fun i k' s t a h1 h2 o1 o2 g1 g2 => ?_, hj, jL, fun a ha h0 => ?_, fun a ha z => ?_⟩
  · cases i with
    | zero => cases h1; cases h2; exact ⟨x, dx, [], rfl, List.mem_cons_self, hx, ⟨rfl, hS.symm⟩, rfl⟩
    | succ i => exact (get i s o (by simpa using h1) (by simpa using h2)).1
  · have noown : ∀ (i : Nat) (s : Sl) (w : V), (envOf (N.length - 1) ds)[i]? = some s → s.isOwn = true → (ws.map some ++ List.replicate (N.length - 1 - ws.length) (none : Option V))[i]? = some (some w) → False := fun i s w h1 ho h2 => by
      rw [(get i s _ h1 h2).2] at ho; cases ho
    cases i with
    | zero =>
      cases k' with
      | zero => rfl
      | succ k' => exact (noown k' t _ (by simpa using h2) o2 (by simpa using g2)).elim
    | succ i => exact (noown i s _ (by simpa using h1) o1 (by simpa using g1)).elim
  · rcases List.mem_append.mp ha with z | z
    · have z : a = x := by simpa using z
      rw [z, hx] at h0; cases h0
    · exact dom a z h0
  · have e : a = x := by simpa using ha
    rw [e] at z; exact xL z
theorem init_out {k n : Nat} {ms : Mir.Env → M Fl} {ds : List D} {E : XK} {x : Addr} (jL : InJ c L) (out : OutN c x L H Q E (mInit k n ms ds j)) :
    OutS (c.at x) L (fun cls d _ H => E cls d H) { nx := fun _ H' => Q .non H', rt := Q } [x] H (ms (.ownI k [] [] :: envOf (n - 1) ds) j) := by
  have old : ∀ {O' : List Addr} {H' : Hp}, Grow (c.at x) [x] H O' H' → ∀ a o, a ≠ x → a ∉ c.Js → H a = some o → H' a = some o := fun g a o n1 n2 h => g.keep a o (by simpa using n1) n2 h
  unfold mInit bnd at out
  cases q : ms (.ownI k [] [] :: envOf (n - 1) ds) j with
  | stk => rw [q] at out; exact out
  | exc k' g j' =>
    rw [q] at out
    intro O' ρ' σ' H' dx v gr rel rp hd
    exact out dx H' v (old gr) rel.jar (Rep.sub (fun y hy => List.mem_append_right _ hy) _ _ (Rep.un rp)) hd
  | ok f j' =>
    rw [q] at out
    cases f with
    | nx ρ' =>
      intro O' σ' H' gr rel
      have out : OutN c x L H Q E (slot0 ρ' j') := out
      cases ρ' with
      | nil => exact out.elim
      | cons s r =>
        cases s <;> first | exact out.elim | skip
        rename_i k' ns fs
        have hi : 0 < σ'.length := by rw [rel.len]; simp
        obtain ⟨a, dx, vs, e1, mm, t, l, r'⟩ := rel.sl 0 _ σ'[0] rfl (by simp [hi])
        obtain ⟨l1, l2⟩ := l
        have l2 : a = x := l2
        subst l2
        exact out H' dx vs (old gr) rel.jar t l1 (Reps.un (Reps.sub (fun y hy => (List.mem_cons.mp hy).elim (fun z => z ▸ List.mem_append_left _ mm) fun z => List.mem_append_right _ z) _ _ r'))
    | rt d => exact out.elim
    | rtF d => exact out.elim
    | bk ρ' => exact out.elim
    | ct ρ' => exact out.elim
/-- __init__ keeps its mirror -/
theorem fn_okI {P : Program} {w : World} {K : PySem.W.Frag} {mg : Str → Option Value} {base : Heap} {x qual : Str} {st : Stmt} {f : Addr} {fd : FuncData} {N ps : List Str} {k kc : Nat} {ms : Mir.Env → M Fl} (F : Fun K x qual st f fd) (S : FnScope N ps (defScope st)) (hN : 0 < N.length)
    (body : ∀ (y : Addr) (cdv : Value) (A : Around) (outer : List PySem.Env) (s : Shared) (H : Hp) (E : XK) (B : List Addr), Room k (A.deeper (PyProof.Rows.envOfC qual (defScope st) s.heap.objs.size f cdv)) →
      MSs (cxOf (L2.CX P w) P w K mg base N qual (defScope st) f cdv A outer s H E) (c.at y) B (fun cls d _ H => E cls d H) (defBody st) ms) :
    FnOk P w K mg base (L2.CX P w) (k + 1) f fd ps (spI c kc ps.length (mInit kc N.length ms)) := by
  refine F.okX S (fun vs H Q E h => h.1) fun cdv A outer s H vs Q E hr h => ?_
  obtain ⟨_, x, dx, ws, L, j, ds, rfl, jL, xL, dom, hj, hx, r, out⟩ := h
  exact ⟨rdS (c.at x) L (fun cls d _ H => E cls d H) ms, body x cdv A outer s H E L hr, [x], _, j, rel_startI (c := c.at x) rfl hN jL xL dom hj hx (Reps.at _ _ r), init_out jL out⟩
def isIns : D → Bool
  | .ins _ _ _ => true
  | _ => false
def dMake (n : Nat) (fm : List D → M D) (ds : List D) : M D := need (ds.length + 1 = n) (bnd (nox (fm ds)) fun d => need (isIns d = true) (ret d))
/-- C(e, ..) -/
theorem me_make {k kc n : Nat} {f : Addr} {fd : FuncData} {ps : List Str} {fm : List D → M D} {x : Str} {p : Pos} {es : List Expr} {ml : Mir.Env → M (List D)} (M' : Mk X.K (c.cls kc) f) (F : FnOk X.prog X.w X.K X.mg X.base (L2.CX X.prog X.w) k f fd ps (spI c kc n fm)) (hr : Room (k + 1) X.A)
    (hm : X.mg x = some (.ref (c.cls kc))) (hb : Binds X.K fd ps []) (ha : MA X c B W (e :: es) ml) (hg : Gl X x := by rfl) (hd : (x == ("__debug__" : Str)) = false := by decide) (hst : starEach (e :: es) X.env = (false, eval e X.env) :: starEach es X.env := by rfl)
    (hpl : (backTo pos (starEach es X.env)).any (·.1) = false := by rfl) : ME X m c B W (.Call (.Name x p) (e :: es) [] pos) (mCl (dMake n fm) ml) :=
  me_mono (pe_make M' F hr hg hm hb .nil passL ha hd hst hpl) fun σ H Q ⟨O, ρ, j, rel, out⟩ => rdA_bnd (m' := m) rel out fun ds j1 vs H1 rel1 e1 rp out1 => by
    intro x dx hx hdx hne
    obtain ⟨hn, out1⟩ := need_out (r := .stk) out1
    obtain ⟨d, j', q, o⟩ : ∃ d j', fm ds j1 = .ok d j' ∧ Out m c (O ++ B) W σ H1 Q (need (isIns d = true) (ret d) j') := by
      unfold bnd nox at out1
      cases q : fm ds j1 with
      | ok d j' => rw [q] at out1; exact ⟨d, j', rfl, out1⟩
      | exc k g j' => rw [q] at out1; exact out1.elim
      | stk => rw [q] at out1; exact out1.elim
    obtain ⟨hi, o⟩ := need_out (r := .stk) o
    have ex0 : ∀ a o, H1 a = some o → upd (upd H1 dx (.own x)) x (.ins (c.cls kc) dx []) a = some o := fun a o h => by
      rw [upd_ne (ne_of_none h hx), upd_ne (ne_of_none h hdx)]; exact h
    have xL : x ∉ O ++ B := rel1.fresh hx
    refine ⟨by rw [List.append_nil, List.length_cons, ← rp.len]; exact hn, x, dx, vs, O ++ B, j1, ds, by rw [List.append_nil], rel1.jL, xL, fun a ha h0 => ?_, fun hh => ex0 _ _ (rel1.jar hh), upd_same, ?_, ?_⟩
    · cases z : H1 a with
      | none => exact rel1.dom a ha z
      | some o => rw [ex0 a o z] at h0; cases h0
    · exact Reps.exS (S := []) (fun _ z => nomatch z) (fun a o _ h => ex0 a o h) _ _ (Reps.add hx _ _ rp)
    · rw [q]
      cases d with
      | ins k' ns fs =>
        intro H' dx' ws old hj hx' l r
        refine ⟨rfl, o (.ref x) H' (fun a u n h => old a u (ne_of_none h hx) (by simpa using n) (ex0 a u h)) hj (RepM.ofF rel1.jL ⟨x, dx', ws, rfl, xL, hx, hx', l, r⟩)⟩
      | _ => cases hi
end
end Mir
set_option Elab.async false
set_option linter.all false
set_option maxRecDepth 100000
set_option maxHeartbeats 4000000
/-! Mir17: sets of ints, of tuples of ints of any lengths: set, sorted(set(..)). -/
namespace Mir
open PySem L2 PySem.Spec PyProof.Rows PySem.W
/-! ### tuples of ints of any lengths, compared by the sort -/
section
variable {prog : Program} {w : World} {A : Around} {E : Value → Shared → Prop} {s : Shared}
theorem lexM {b fin : Bool} {Q : Bool → Shared → Prop} {xs ys : List Value} {ns ms : List Int} (i : Nat) (hx : IntsAre xs ns) (hy : IntsAre ys ms) (hf : fin = decide (ns.length < ms.length)) (h : Q (HT.lexLt ns ms) s) :
    PySem.W.KatLex prog w A b fin Q (xs.zip ys) i s := by
  induction hx generalizing ys ms i with
  | nil =>
    cases hy with
    | nil => rw [hf]; exact PySem.W.kat_nil h
    | cons q u hy => rw [hf]; exact PySem.W.kat_nil h
  | @cons p t xs ns hx ih =>
    cases hy with
    | nil => rw [hf]; exact PySem.W.kat_nil h
    | @cons q u ys ms hy =>
      show PySem.W.KatLex prog w A b fin Q ((Value.int p t, Value.int q u) :: xs.zip ys) i s
      have hf' : fin = decide (ns.length < ms.length) := by
        rw [hf]; simp only [List.length_cons, Nat.add_lt_add_iff_right]
      rw [HT.lexLt_cons] at h
      refine PySem.W.kat_cons (wpAny_eqBool_int ?_)
      by_cases e : p = q
      · subst e
        rw [if_pos rfl] at h
        rw [beq_self_eq_true]
        exact PySem.W.kat_yes (ih (i + 1) hy hf' h)
      · rw [if_neg e] at h
        rw [show (p == q) = false from beq_eq_false_iff_ne.mpr e]
        exact PySem.W.kat_no (TS.oneLt_ints _ h)
theorem ltTup3 {κ : SortKind} (hκ : κ = tuples' true ∨ κ = general' ∨ κ = oneType') {u v : Value} {ns ms : List Int} {Q : Bool → Shared → Prop} (hu : A.units < cLine) (hx : TS.TupInts s.heap u ns) (hy : TS.TupInts s.heap v ms) (h : Q (HT.lexLt ns ms) s) :
    wpAny (model prog w) A (keyLt' κ u v) Q E s := by
  obtain ⟨a, xs, rfl, tx, ix⟩ := hx
  obtain ⟨b, ys, rfl, ty, iy⟩ := hy
  rcases hκ with rfl | rfl | rfl
  · obtain ⟨o, ho, hc, n, hd⟩ := tx
    obtain ⟨o', ho', hc', n', hd'⟩ := ty
    refine PySem.W.kat_lt ho hd ho' hd' (lexM 0 ix iy ?_ h)
    rw [← ix.length, ← iy.length, Array.length_toList, Array.length_toList]
  · show wpAny (model prog w) A (oneLt' false (.ref a) (.ref b)) Q E s
    exact PySem.W.kat_one _ _ (HT.lt_tupInts tx ty ix iy hu h)
  · obtain ⟨⟨cls, dd, data, sl⟩, ho, hc, n, hd⟩ := tx
    obtain ⟨⟨cls', dd', data', sl'⟩, ho', hc', n', hd'⟩ := ty
    simp only at hc hd hc' hd'
    subst hc hd hc' hd'
    rw [keyLt'_oneType, oneLt'_eq]
    simp only [if_true]
    refine wpAny_bind (wpAny_cRoomFor hu ?_)
    refine wpAny_bind (wpAny_callSpecialIfBound?_slot ⟨_, ho, rfl⟩ PySem.F.slot_tuple_lt (call_meets PySem.F.slot_tuple_lt ⟨_, ho, rfl⟩ PySem.F.entry_tuple_lt (PySem.F.args_tuple_lt_2 _ _) (HT.tuple_lt_ints a b xs ys n n' dd dd' sl sl' ns ms ix iy) ⟨ho, ho', ?_⟩))
    exact wpAny_truthy_bool h
/-- the first item of a tuple -/
def fstO (h : Heap) (v : Value) : Option Value := match v with
  | .ref a => match h.get? a with
    | some o => match o.data with
      | .seq xs _ => xs[0]?
      | _ => none
    | none => none
  | _ => none
theorem fstO_some {h : Heap} {v : Value} {ns : List Int} (x : TS.TupInts h v ns) : (fstO h v).isSome = !ns.isEmpty ∧ ∀ u, fstO h v = some u → ∃ n t, u = Value.int n t := by
  obtain ⟨a, xs, rfl, ⟨o, ho, hc, n, hd⟩, i⟩ := x
  have e : fstO h (.ref a) = xs.toList[0]? := by
    show (match h.get? a with | some o => _ | none => none) = _
    rw [ho]
    dsimp only
    rw [hd]
    simp
  rw [e]
  generalize xs.toList = l at i
  cases i with
  | nil => exact ⟨rfl, fun u z => nomatch z⟩
  | cons m t r => exact ⟨rfl, fun u z => ⟨m, t, by simpa using z.symm⟩⟩
theorem firstsM {M : Model} : ∀ (vs : List Value) {Q : List (Option Value) → Shared → Prop}, (∀ v ∈ vs, ∃ ns, TS.TupInts s.heap v ns) → Q (vs.map (fstO s.heap)) s → wpAny M A (vs.mapM firstOfTuple') Q E s
  | [], _, _, h => by rw [List.mapM_nil]; exact wpAny_pure h
  | v :: vs, Q, x, h => by
    obtain ⟨ns, a, xs, rfl, ⟨o, ho, hc, n, hd⟩, i⟩ := x v List.mem_cons_self
    rw [List.mapM_cons]
    refine wpAny_bind ?_
    rw [kas_first_eq]
    refine wpAny_bind (Looks.here (show Looks M s.heap (typeOf (.ref a)) o.cls from (Looks.ld ho).andThen .now) ?_)
    rw [hc, if_neg (by first | decide | simp)]
    refine wpAny_bind (listItems_at ho hd (wpAny_pure ?_))
    have e : fstO s.heap (.ref a) = xs[0]? := by
      show (match s.heap.get? a with | some o => _ | none => none) = _
      rw [ho]
      dsimp only
      rw [hd]
    rw [← e]
    exact wpAny_bind (firstsM vs (Q := fun bs s' => wpAny M A (pure (fstO s.heap (.ref a) :: bs)) Q E s') (fun u hu => x u (List.mem_cons_of_mem _ hu)) (wpAny_pure h))
theorem oneTyM {M : Model} {vs : List Value} {T : Value} {Q : Option Value → Shared → Prop} (h1 : 0 < vs.length) (hT : ∀ v ∈ vs, Looks M s.heap (typeOf v) T) (hT2 : (T == T) = true) (h : Q (some T) s) : wpAny M A (oneTypeOnly' vs.toArray) Q E s := by
  obtain ⟨f₁, fr, rfl⟩ : ∃ f₁ fr, vs = f₁ :: fr := by
    match vs, h1 with
    | f₁ :: fr, _ => exact ⟨f₁, fr, rfl⟩
  rw [oneTypeOnly'_eq, List.mapM_toArray, map_eq_pure_bind]
  refine wpAny_bind (wpAny_bind (kas_mapM (r := T) _ (fun v hv Q' hq => (hT v hv).here hq) (wpAny_pure ?_)))
  have hall2 : ((List.map (fun _ => T) (f₁ :: fr)).toArray.all fun x => x == T) = true := by
    simp only [List.all_toArray, List.all_map, List.all_eq_true]
    intro _ _
    exact hT2
  have h0 : (List.map (fun _ => T) (f₁ :: fr)).toArray[0]? = some T := by simp
  rw [h0]
  simp only [hall2, if_true]
  exact wpAny_pure h
/-- the kind the sort finds for tuples of ints, two or more of them -/
theorem kindTup {vs : List Value} {k : Value → List Int} (h2 : 2 ≤ vs.length) (hv : ∀ v ∈ vs, TS.TupInts s.heap v (k v)) :
    ∃ κ, (κ = tuples' true ∨ κ = general' ∨ κ = oneType') ∧ ∀ (Q : SortKind → Shared → Prop) (E : Value → Shared → Prop), Q κ s → wpAny (model prog w) A (keyKind' vs.toArray) Q E s := by
  have hx : ∀ v ∈ vs, ∃ ns, TS.TupInts s.heap v ns := fun v m => ⟨_, hv v m⟩
  have go : ∀ (Q : SortKind → Shared → Prop) (E : Value → Shared → Prop), wpAny (model prog w) A (do
      if (vs.map (fstO s.heap)).toArray.all (·.isSome) then
        rule "list.sort.keys-are-tuples"
        return tuples' ((← oneTypeOnly' ((vs.map (fstO s.heap)).toArray.filterMap id)).any (· != .type "tuple"))
      if ((vs.map (fstO s.heap)).toArray[0]?.bind id).isSome then return general'
      return if (← oneTypeOnly' vs.toArray).isSome then oneType' else general') Q E s → wpAny (model prog w) A (keyKind' vs.toArray) Q E s := fun Q E z => by
    rw [keyKind'_eq, List.mapM_toArray, map_eq_pure_bind]
    exact wpAny_bind (wpAny_bind (firstsM vs hx (wpAny_pure z)))
  by_cases c1 : (vs.map (fstO s.heap)).toArray.all (·.isSome) = true
  · refine ⟨tuples' true, .inl rfl, fun Q E q => go Q E ?_⟩
    rw [if_pos c1]
    refine wpAny_bind (wpAny_rule ?_)
    have fm : (vs.map (fstO s.heap)).toArray.filterMap id = (vs.filterMap (fstO s.heap)).toArray := by
      simp [List.filterMap_map]
    rw [fm]
    refine wpAny_bind (oneTyM (T := Value.type "int") ?_ (fun v m => ?_) rfl ?_)
    · obtain ⟨v, r, rfl⟩ : ∃ v r, vs = v :: r := by
        match vs, h2 with
        | v :: r, _ => exact ⟨v, r, rfl⟩
      have : (fstO s.heap v).isSome = true := by
        simp only [List.all_toArray, List.all_map, List.all_eq_true] at c1
        exact c1 v List.mem_cons_self
      obtain ⟨u, e⟩ := Option.isSome_iff_exists.mp this
      rw [List.filterMap_cons, e]
      simp
    · obtain ⟨u, m1, e⟩ := List.mem_filterMap.mp m
      obtain ⟨n, t, rfl⟩ := (fstO_some (hv u m1)).2 v e
      exact PySem.W.Looks.of_pure rfl
    · have e : (Option.some (Value.type "int")).any (· != Value.type "tuple") = true := by first | rfl | decide
      rw [e]
      exact wpAny_pure q
  · by_cases c2 : ((vs.map (fstO s.heap)).toArray[0]?.bind id).isSome = true
    · refine ⟨general', .inr (.inl rfl), fun Q E q => go Q E ?_⟩
      rw [if_neg c1, if_pos c2]
      exact wpAny_pure q
    · refine ⟨oneType', .inr (.inr rfl), fun Q E q => go Q E ?_⟩
      rw [if_neg c1, if_neg c2]
      refine wpAny_bind (oneTyM (T := Value.type "tuple") (by omega) (fun v m => ?_) rfl ?_)
      · obtain ⟨a, xs, rfl, ⟨o, ho, hc, n, hd⟩, i⟩ := hv v m
        rw [← hc]
        exact (Looks.ld ho).andThen .now
      · exact wpAny_pure q
theorem tups_sortable {a : Addr} {vs : List Value} {k : Value → List Int} (h2 : 2 ≤ vs.length) (hu : A.units < cLine) (hv : ∀ v ∈ vs, TS.TupInts s.heap v (k v)) (ha : ∀ o, s.heap.get? a = some o → o.cls ≠ .type "tuple") :
    SrtO.SortableO prog w A s a vs fun v u => HT.lexLt (k v) (k u) := by
  intro h' keep
  have hv' : ∀ v ∈ vs, TS.TupInts h' v (k v) := fun v hm => (hv v hm).keeps fun b o e c => keep b o (fun z => by subst z; exact ha o e c) e
  obtain ⟨κ, hκ, hk⟩ := kindTup (prog := prog) (w := w) (A := A) (s := { s with heap := h' }) h2 hv'
  refine ⟨κ, hk, fun p q hp hq => ?_⟩
  exact ltTup3 (s := { s with heap := h' }) (Q := fun r s' => s' = _ ∧ r = HT.lexLt (k p.1) (k q.1)) hκ hu (hv' p.1 hp) (hv' q.1 hq) ⟨rfl, rfl⟩
end
end Mir
set_option Elab.async false
set_option linter.all false
set_option maxRecDepth 100000
set_option maxHeartbeats 4000000
/-! Mir18: set(xs) of a list of ints; sorted(set(xs)). -/
namespace Mir
open PySem L2 PySem.Spec PyProof.Rows
section
variable {P : Program} {w : World} {A : Around} {E : Value → Shared → Prop} {s : Shared}
/-- (the kit's proof for a tuple, turned to a list) -/
theorem call_set_lstI {l : Addr} {items : Array Value} (ns : List Int) {Q : Value → Shared → Prop} (hh : A.handled = none) (hl : s.heap.IsList l items) (hit : IntsAre items.toList ns) (hb : ns.length + 1 < scanBound)
    (h : ∀ (h' : Heap) (tk c : Nat), SetR w h' s.heap.objs.size (fun j => decide (j ∈ ns)) c → c ≤ ns.length → (∀ b o, s.heap.get? b = some o → h'.get? b = some o) → Q (.ref s.heap.objs.size) { s with heap := h', toks := tk }) :
    wpAny (model P w) A (call (.type "set") [.ref l]) Q E s := by
  have hisz : items.size = ns.length := by
    have q := IntsAre.length hit
    rw [Array.length_toList] at q
    exact q
  obtain ⟨c, tl, hmro⟩ := F.called_set.mro
  have hmade := F.called_set.made
  have hsub := F.called_set.sub
  refine wpAny_call (codeAny_of_tree ?_)
  show wpAny _ _ (callAny (.type "set") _) _ _ _
  refine wpAny_pure ⟨Code.quiet_builtin _ (by decide +kernel), codeAny_builtin F.entry_type_call ?_⟩
  rw [Around.under_plain (weight_type_call_type "set" [.ref l] []) rfl]
  have h1 := F.called_set.notType
  have h2 := F.called_set.canCreate
  have hct := F.typeCall_set_1 (.ref l)
  repeat (any_goals (first | assumption | wp_step))
  refine codeAny_mono (code_set_led1 (.ref l) (E := E) (Q₁ := fun obj s₁ => obj = .ref s.heap.objs.size ∧ s₁ = { s with heap := s.heap.push { cls := .type "set", dict := none, data := .set #[] 0 (.fresh 0 0 (!w.params.followText "set-order")) } }) ⟨rfl, rfl⟩) fun r s₁ hr => ?_
  cases r with
  | error e => exact hr
  | ok fl =>
    cases fl with
    | ret obj =>
      obtain ⟨rfl, rfl⟩ := hr
      have hS : (s.heap.push { cls := .type "set", dict := none, data := .set #[] 0 (.fresh 0 0 (!w.params.followText "set-order")) }).get? s.heap.objs.size = some { cls := .type "set", dict := none, data := .set #[] 0 (.fresh 0 0 (!w.params.followText "set-order")) } := Heap.get?_push_size _ rfl
      have hT : Shared.TypeIs { s with heap := s.heap.push { cls := .type "set", dict := none, data := .set #[] 0 (.fresh 0 0 (!w.params.followText "set-order")) } } (.ref s.heap.objs.size) "set" := ⟨_, hS, rfl⟩
      have hli := F.called_set.init.lookup
      have hbi := F.called_set.init.bind (.ref s.heap.objs.size)
      repeat (any_goals (first | assumption | wp_step))
      refine codeAny_mono (codeAny_call_builtin (R := wants (fun r s₂ => r = .none ∧ ∃ h' tk c, s₂ = { s with heap := h', toks := tk } ∧ SetR w h' s.heap.objs.size (fun j => decide (j ∈ ns)) c ∧ c ≤ ns.length ∧
          (∀ b o, s.heap.get? b = some o → h'.get? b = some o)) E) F.called_set.init.plain F.entry_set_init (check_set_init_1 hT ?_)) fun r₂ s₂ hr₂ => ?_
      · obtain ⟨ol, hol, hcl, nl, hdl⟩ := hl
        obtain ⟨ocls, odict, odata, oslots⟩ := ol
        simp only at hcl hdl
        subst hcl; subst hdl
        have hol' : (s.heap.push { cls := .type "set", dict := none, data := .set #[] 0 (.fresh 0 0 (!w.params.followText "set-order")) }).get? l = some { cls := .type "list", dict := odict, data := .seq items nl, slots := oslots } := Heap.get?_push_of_some _ hol
        have hsls := F.sub_list_set
        have hslf := F.sub_list_frozenset
        have hne : (Value.type "list" == Value.type "dict") = false := by decide
        have hl1 : (s.heap.push { cls := .type "set", dict := none, data := .set #[] 0 (.fresh 0 0 (!w.params.followText "set-order")) }).IsList l items := ⟨_, hol', rfl, nl, rfl⟩
        unfold Builtin.«set.__init__» noKeywords Builtin.Frozenset.updateFrom
        generalize hPI : pyIter = PI
        wp_walk
        subst hPI
        refine wpAny_pyIter_list hl1 ?_
        refine wpAny_bind (wpAny_runValue ?_)
        have hlS : l < s.heap.objs.size := Heap.lt_size hol
        have hh3 : A.in1.in1.in1.handled = none := by simp [hh]
        have hz1 : (s.heap.push { cls := .type "set", dict := none, data := .set #[] 0 (.fresh 0 0 (!w.params.followText "set-order")) }).objs.size = s.heap.objs.size + 1 := Heap.size_push ..
        have hneI : l ≠ (s.heap.push { cls := .type "set", dict := none, data := .set #[] 0 (.fresh 0 0 (!w.params.followText "set-order")) }).objs.size := by
          rw [Heap.size_push]; exact Nat.ne_of_lt (Nat.lt_succ_of_lt hlS)
        have hSf : s.heap.objs.size ∉ [(s.heap.push { cls := .type "set", dict := none, data := .set #[] 0 (.fresh 0 0 (!w.params.followText "set-order")) }).objs.size, l] := by
          rw [Heap.size_push]; simp only [List.mem_cons, List.mem_singleton, List.not_mem_nil, or_false, not_or]
          exact ⟨Nat.ne_of_lt (Nat.lt_succ_self _), Nat.ne_of_gt hlS⟩
        have hval : ∀ (i : Nat) (v : Value), items[i]? = some v → ∃ k t, ns[i]? = some k ∧ v = .int k t := fun i v hv => by
          have hi : i < ns.length := by rw [← hisz]; exact (Array.getElem?_eq_some_iff.mp hv).1
          obtain ⟨t, e⟩ := PyProof.Rows.IntsAre.int_at hit i v (by rw [Array.getElem?_toList]; exact hv)
          refine ⟨ns[i], t, List.getElem?_eq_getElem hi, ?_⟩
          rw [e, List.getD_eq_getElem?_getD, List.getElem?_eq_getElem hi] <;> rfl
        refine set_update_ints ((Walks.list hh3 _ l hneI items).toS) s.heap.objs.size
          hSf ns hisz hb hval (items.size - 0) 0 _ (by omega) (Nat.zero_le _)
          ⟨⟨_, Heap.get?_push_size _ rfl, rfl, rfl⟩, (hl1.push _)⟩ ?hS0 ?hR
        case hS0 =>
          have hget : ((s.heap.push { cls := .type "set", dict := none, data := .set #[] 0 (.fresh 0 0 (!w.params.followText "set-order")) }).push { cls := .type "list_iterator", data := .fields #[.ref l, .int 0 0] }).get? s.heap.objs.size
              = some { cls := .type "set", dict := none, data := .set #[] 0 (.fresh 0 0 (!w.params.followText "set-order")) } := Heap.get?_push_of_some _ hS
          exact ⟨0, Nat.le_refl 0, setR_new_at hget⟩
        case hR =>
          intro s' c' hm hc' hS'
          obtain ⟨h', g2, d', tk', os'⟩ := s'
          have eg : g2 = s.gens := hm.gens
          have ed : d' = s.drawn := hm.drawn
          have eo : os' = s.os := hm.os
          subst eg; subst ed; subst eo
          show wpAny _ _ _ _ _ _
          refine wpAny_pure ?_
          show wpAny _ _ (PySem.ret Value.none) _ _ _
          rw [hisz] at hc'
          refine wpAny_pure ⟨rfl, h', tk', c', rfl, hS', hc', fun b o e => ?_⟩
          have hb0 : b < s.heap.objs.size := Heap.lt_size e
          have hb1 : b ≠ s.heap.objs.size := Nat.ne_of_lt hb0
          have hb2 : b ≠ (s.heap.push { cls := .type "set", dict := none, data := .set #[] 0 (.fresh 0 0 (!w.params.followText "set-order")) }).objs.size := by
            rw [Heap.size_push]; exact Nat.ne_of_lt (Nat.lt_succ_of_lt hb0)
          exact hm.heap b o (by simp only [List.mem_cons, List.mem_singleton, List.not_mem_nil, or_false, not_or]; exact ⟨hb1, hb2⟩) (Heap.get?_push_of_some _ (Heap.get?_push_of_some _ e))
      · cases r₂ with
        | error e => exact hr₂
        | ok fl₂ =>
          cases fl₂ with
          | ret r =>
            obtain ⟨rfl, h', tk, c', rfl, hS', hc', hk'⟩ := hr₂
            repeat (any_goals (first | assumption | wp_step))
            exact h _ _ _ hS' hc' hk'
          | _ => exact hr₂.elim
    | _ => exact hr.elim
end
end Mir
set_option Elab.async false
set_option linter.all false
set_option maxRecDepth 100000
set_option maxHeartbeats 4000000
/-! Mir19: sorted(set(xs)), set(xs), k in set. -/
namespace Mir
open PySem L2 PySem.Spec PyProof.Rows
section
variable {P : Program} {w : World} {A : Around} {E : Value → Shared → Prop} {s : Shared}
/-- sorted(s) of a set, by an order of its members (lines of the kit's sorted_set) -/
theorem sorted_setG {a : Addr} {es : Array (Int × Value)} {ep : Nat} {t : SetTable} {ltv : Value → Value → Bool} {Q : Value → Shared → Prop} (ha : SetAt s.heap a es ep t) (hh : A.handled = none) (hf : t.fits es.size = true) (hsz : es.size < scanBound) (r : Ris t.place.toList)
    (hl : w.params.followText "set-order" = true ∨ t.led = true) (O : SrtO.Swo ltv)
    (hS : ∀ vs : List Value, vs.Perm (es.toList.map (·.2)) → 2 ≤ vs.length → ∀ (s1 : Shared) (a' : Addr), (∀ b o, s.heap.get? b = some o → s1.heap.get? b = some o) → s1.heap.get? a' = some (seqObj "list" vs.toArray 0) → SrtO.SortableO P w A.in1.in1 s1 a' vs ltv)
    (hQ : ∀ s' p (out : List Value) (c : Nat), (∀ b o, s.heap.get? b = some o → s'.heap.get? b = some o) → s'.gens = s.gens → s'.os = s.os → s.heap.objs.size ≤ p →
      s'.heap.get? p = some (seqObj "list" out.toArray c) → out.Perm (es.toList.map (·.2)) → SrtO.Srtd ltv out → Q (.ref p) s') :
    wpAny (model P w) A (call (.builtin "sorted") [.ref a]) Q E s := by
  refine Calls.call_function_entry kind_sorted plain_sorted entry_sorted (args_sorted1 _) ?_
  unfold Builtin.«sorted»
  refine wpAny_bind (m := checkCount "sorted" 1 1 _) (wpAny_pure ?_)
  refine wpAny_bind (collect_set (A := A.in1) hh ha hf hsz r hl fun s1 vs k1 hz g1 o1 pm => ?_)
  have hvl : vs.length = es.size := by rw [pm.length_eq, List.length_map, Array.length_toList]
  have hzl : vs.length ≤ sizeLine := by rw [hvl, sizeLine_eq]; unfold scanBound at hsz; omega
  refine wpAny_bind (wpAny_newList ?_ hzl)
  have hoL : (s1.heap.push (seqObj "list" vs.toArray 0)).get? s1.heap.objs.size = some (seqObj "list" vs.toArray 0) := Heap.get?_push_size _ rfl
  refine wpAny_bind (wpAny_holding (wpAny_call_entry slot_list_sort ⟨_, hoL, rfl⟩ entry_list_sort
    (SrtO.list_sort_ord O hoL hzl (fun h2 => hS vs pm h2 { s1 with heap := s1.heap.push (seqObj "list" vs.toArray 0) } _ (fun b o e => Heap.get?_push_of_some _ (k1 b o e)) hoL) fun out a1 a2 => ⟨_, rfl, ?_⟩) (args_list_sort _)))
  obtain ⟨c, hc⟩ := sortedHeap_at (vs := vs) (out := out.toArray) hoL
  refine wpAny_pure ⟨_, rfl, hQ _ s1.heap.objs.size out c (fun b u e => ?_) g1 o1 hz hc (a2.perm.trans pm) a1⟩
  have q := k1 b u e
  have hlt := Heap.lt_size q
  show (sortedHeap (s1.heap.push (seqObj "list" vs.toArray 0)) s1.heap.objs.size vs out.toArray).get? b = some u
  rw [sortedHeap_old (Nat.ne_of_lt hlt) (by rw [size_push']; exact Nat.lt_succ_of_lt hlt)]
  exact Heap.get?_push_of_some _ q
end
/-! ### the one list that is sorted and has these members -/
def insU {α : Type} (lt : α → α → Bool) (x : α) : List α → List α
  | [] => [x]
  | y :: r => if lt x y = true then x :: y :: r else if lt y x = true then y :: insU lt x r else y :: r
def usrt {α : Type} (lt : α → α → Bool) : List α → List α
  | [] => []
  | x :: r => insU lt x (usrt lt r)
/-- a strict order in which no two differ unseen -/
structure Sto {α : Type} (lt : α → α → Bool) : Prop where
  irr : ∀ x, lt x x = false
  tr : ∀ x y z, lt x y = true → lt y z = true → lt x z = true
  tot : ∀ x y, lt x y = false → lt y x = false → x = y
section
variable {α : Type} {lt : α → α → Bool}
theorem insU_mem (O : Sto lt) (x : α) : ∀ (l : List α) (y : α), y ∈ insU lt x l ↔ y = x ∨ y ∈ l
  | [], y => by simp [insU]
  | z :: r, y => by
    unfold insU
    split
    · simp
    · split
      · rw [List.mem_cons, insU_mem O x r y, List.mem_cons]
        constructor <;> (intro h; rcases h with h | h | h <;> simp [h])
      · rename_i h1 h2
        have e : x = z := O.tot x z (by simpa using h1) (by simpa using h2)
        subst e
        simp
theorem usrt_mem (O : Sto lt) : ∀ (l : List α) (y : α), y ∈ usrt lt l ↔ y ∈ l
  | [], y => by simp [usrt]
  | x :: r, y => by unfold usrt; rw [insU_mem O, usrt_mem O r]; simp
theorem insU_pw (O : Sto lt) (x : α) : ∀ (l : List α), l.Pairwise (fun a b => lt a b = true) → (insU lt x l).Pairwise (fun a b => lt a b = true)
  | [], _ => by simp [insU]
  | z :: r, h => by
    obtain ⟨h1, h2⟩ := List.pairwise_cons.mp h
    unfold insU
    split
    · rename_i c
      refine List.pairwise_cons.mpr ⟨fun y hy => ?_, h⟩
      rcases List.mem_cons.mp hy with e | hy
      · rw [e]; exact c
      · exact O.tr x z y c (h1 y hy)
    · split
      · rename_i c1 c2
        refine List.pairwise_cons.mpr ⟨fun y hy => ?_, insU_pw O x r h2⟩
        rcases (insU_mem O x r y).mp hy with e | hy
        · rw [e]; exact c2
        · exact h1 y hy
      · exact h
theorem usrt_pw (O : Sto lt) : ∀ (l : List α), (usrt lt l).Pairwise (fun a b => lt a b = true)
  | [] => List.Pairwise.nil
  | x :: r => insU_pw O x _ (usrt_pw O r)
theorem sto_uniq (O : Sto lt) : ∀ {l m : List α}, l.Pairwise (fun a b => lt a b = true) → m.Pairwise (fun a b => lt a b = true) → (∀ x, x ∈ l ↔ x ∈ m) → l = m
  | [], [], _, _, _ => rfl
  | [], y :: m, _, _, h => absurd ((h y).mpr List.mem_cons_self) (by simp)
  | x :: l, [], _, _, h => absurd ((h x).mp List.mem_cons_self) (by simp)
  | x :: l, y :: m, hl, hm, h => by
    obtain ⟨l1, l2⟩ := List.pairwise_cons.mp hl
    obtain ⟨m1, m2⟩ := List.pairwise_cons.mp hm
    have e : x = y := by
      rcases List.mem_cons.mp ((h x).mp List.mem_cons_self) with e | hx
      · exact e
      rcases List.mem_cons.mp ((h y).mpr List.mem_cons_self) with e | hy
      · exact e.symm
      have a := l1 y hy
      have b := m1 x hx
      have c := O.tr x y x a b
      rw [O.irr] at c; cases c
    subst e
    have h3 : ∀ z, z ∈ l ↔ z ∈ m := fun z => by
      have q := h z
      rw [List.mem_cons, List.mem_cons] at q
      constructor
      · intro hz
        rcases q.mp (.inr hz) with e | hz'
        · subst e; have := l1 z hz; rw [O.irr] at this; cases this
        · exact hz'
      · intro hz
        rcases q.mpr (.inr hz) with e | hz'
        · subst e; have := m1 z hz; rw [O.irr] at this; cases this
        · exact hz'
    rw [sto_uniq O l2 m2 h3]
end
def ltI (a b : Int) : Bool := decide (a < b)
theorem sto_int : Sto ltI := by
  refine ⟨fun x => decide_eq_false (Int.lt_irrefl x), fun x y z h1 h2 => ?_, fun x y h1 h2 => ?_⟩
  · exact decide_eq_true (Int.lt_trans (of_decide_eq_true h1) (of_decide_eq_true h2))
  · have a := of_decide_eq_false (p := x < y) h1
    have b := of_decide_eq_false (p := y < x) h2
    omega
theorem lex_irr : ∀ l : List Int, HT.lexLt l l = false
  | [] => rfl
  | x :: r => by rw [HT.lexLt_cons, if_pos rfl]; exact lex_irr r
theorem lex_trn : ∀ x y z : List Int, HT.lexLt x y = true → HT.lexLt y z = true → HT.lexLt x z = true
  | _, [], [], _, h => by cases h
  | [], _ :: _, [], _, h => by cases h
  | _ :: _, _ :: _, [], _, h => by cases h
  | [], _, _ :: _, _, _ => rfl
  | _ :: _, [], _ :: _, h, _ => by cases h
  | a :: x, b :: y, c :: z, h1, h2 => by
    rw [HT.lexLt_cons] at h1 h2 ⊢
    by_cases e1 : a = b
    · subst e1
      rw [if_pos rfl] at h1
      by_cases e2 : a = c
      · rw [if_pos e2] at h2 ⊢; exact lex_trn x y z h1 h2
      · rw [if_neg e2] at h2 ⊢; exact h2
    · rw [if_neg e1] at h1
      have h1 := of_decide_eq_true h1
      by_cases e2 : b = c
      · subst e2
        rw [if_neg (by omega)]; exact decide_eq_true h1
      · rw [if_neg e2] at h2
        have h2 := of_decide_eq_true h2
        rw [if_neg (by omega)]; exact decide_eq_true (by omega)
theorem lex_tot : ∀ x y : List Int, HT.lexLt x y = false → HT.lexLt y x = false → x = y
  | [], [], _, _ => rfl
  | [], _ :: _, h, _ => by cases h
  | _ :: _, [], _, h => by cases h
  | a :: x, b :: y, h1, h2 => by
    rw [HT.lexLt_cons] at h1 h2
    by_cases e : a = b
    · subst e
      rw [if_pos rfl] at h1 h2
      rw [lex_tot x y h1 h2]
    · rw [if_neg e] at h1
      rw [if_neg (Ne.symm e)] at h2
      have h1 := of_decide_eq_false h1
      have h2 := of_decide_eq_false h2
      omega
theorem sto_lex : Sto HT.lexLt := ⟨lex_irr, lex_trn, lex_tot⟩
/-- sorted and without doubles: strictly sorted -/
theorem strict_of {α : Type} {lt : α → α → Bool} (O : Sto lt) : ∀ {l : List α}, l.Pairwise (fun a b => lt b a = false) → l.Nodup → l.Pairwise (fun a b => lt a b = true)
  | [], _, _ => List.Pairwise.nil
  | x :: l, h, d => by
    obtain ⟨h1, h2⟩ := List.pairwise_cons.mp h
    obtain ⟨d1, d2⟩ := List.nodup_cons.mp d
    refine List.pairwise_cons.mpr ⟨fun y hy => ?_, strict_of O h2 d2⟩
    cases q : lt x y with
    | true => rfl
    | false => exact absurd (O.tot x y q (h1 y hy)) (fun e => d1 (e ▸ hy))
end Mir
set_option Elab.async false
set_option linter.all false
set_option maxRecDepth 100000
set_option maxHeartbeats 4000000
/-! Mir20: sorted(set(xs)) by mirrors. -/
namespace Mir
open PySem L2 PySem.Spec PyProof.Rows
section
variable {X : Cx}
/-- behind sorted: a new list -/
theorem sorted_end {pins : List (Addr × Obj)} {σ : L2.St} {H : Hp} {s s' : Shared} {p : Addr} {Q : VK} {vs : List V} {out : List Value} {c : Nat} (I : Inv X pins σ H s) (k : ∀ b o, s.heap.get? b = some o → s'.heap.get? b = some o) (g : s'.gens = s.gens) (o : s'.os = s.os)
    (hp : s.heap.objs.size ≤ p) (hg : s'.heap.get? p = some (seqObj "list" out.toArray c)) (rv : Vals vs out) (hlen : vs.length ≤ sizeLine) (q : H p = none → Q (.ref p) (upd H p (.lst vs))) : EP X pins σ Q (.ref p) s' := by
  have hn : H p = none := I.hok.fresh hp
  have J : Inv X pins σ (upd H p (.lst vs)) { s with heap := s'.heap, gens := s'.gens, drawn := s'.drawn, toks := s'.toks } :=
    I.call (ch := []) (Un.laid k hp hn) (I.hok.laid k hp ⟨hlen, out, c, rv, hg⟩) (by rw [g]; exact I.bare) (fun _ z => nomatch z)
  have e : s' = { s with heap := s'.heap, gens := s'.gens, drawn := s'.drawn, toks := s'.toks } := by
    cases s'
    cases s
    cases o
    rfl
  rw [e]
  exact ⟨.ref p, _, J, rfl, q hn⟩
theorem ints_iv' {vs : List Value} {ns : List Int} (h : IntsAre vs ns) : vs.map SrtO.iv = ns := SrtO.iv_ints h
theorem goods_ints : ∀ {l : List (Int × Value)}, (∀ e ∈ l, GoodE e) → IntsAre (l.map (·.2)) (l.map L2.keyOf)
  | [], _ => .nil
  | e :: l, g => by
    obtain ⟨k, tk, h1, _⟩ := g e List.mem_cons_self
    have h2 : L2.keyOf e = k := by unfold L2.keyOf; rw [h1]
    rw [List.map_cons, List.map_cons, h1, h2]
    exact .cons k tk (goods_ints fun x hx => g x (List.mem_cons_of_mem _ hx))
def tSrtSet (K : PySem.W.Frag) (ta : TE) : TE := fun σ H Q => ta σ H fun x H1 => ∃ l xs, x = V.ref l ∧ SqL K H1 l xs ∧
  ((∃ ns : List Int, xs = ns.map V.int ∧ ns.length + 1 < scanBound ∧ ∀ p, H1 p = none → Q (.ref p) (upd H1 p (.lst ((usrt ltI ns).map V.int)))) ∨
   (∃ ks : List (Addr × List Int), xs = (ks.map fun p => V.ref p.1) ∧ (∀ p ∈ ks, SqT K H1 p.1 (p.2.map V.int)) ∧ ks.length < 64 ∧
      ∀ (L' : List (Addr × List Int)) p, (∀ q ∈ L', q ∈ ks) → L'.map (·.2) = usrt HT.lexLt (ks.map (·.2)) → H1 p = none → Q (.ref p) (upd H1 p (.lst (L'.map fun q => V.ref q.1)))))
theorem pe_srtSet {a : Expr} {ta : TE} {p p2 q pos : Pos} (hc : X.calm = true) (hu : X.A.units + 65 < cLine) (hm : X.mg "sorted" = none) (hm2 : X.mg "set" = none) (ha : PE X a ta) (hg : Gl X "sorted" := by rfl) (hg2 : Gl X "set" := by rfl)
    (na : starEach [a] X.env = (false, eval a X.env) :: starEach [] X.env := by rfl) : PE X (.Call (.Name "sorted" p) [.Call (.Name "set" p2) [a] [] q] [] pos) (tSrtSet X.K ta) := by
  refine ⟨fun pins s σ H Q I h => ?_⟩
  refine Call_ (ld_blt I hg hm boot_sorted ?_)
  refine PyProof.Rows.callWith_builtin1 (PyProof.Rows.args_cons ?_ rfl) rfl rfl
  refine Call_ (ld_blt I hg2 hm2 PyProof.Rows.boot_set ?_)
  refine PyProof.Rows.callWith_type1 (PyProof.Rows.args_cons (thn (ha.run pins s σ H _ I h) fun v s1 ⟨x, H1, I1, r1, q1⟩ => PyProof.Rows.args_nil ?_) na) na rfl
  obtain ⟨l, xs, rfl, hq, h⟩ := q1
  cases r1
  obtain ⟨its, r, pl, hz⟩ := I1.list hq
  rcases h with ⟨ns, rfl, hb, q1⟩ | ⟨ks, rfl, hk, hf, q1⟩
  · refine call_set_lstI (P := X.prog) (w := X.w) ns (I1.ok.hd hc) pl.isList (by simpa using r.ints) hb fun h' tk c hS hc' hk => ?_
    refine PyProof.Rows.args_nil ?_
    obtain ⟨o, es, ep, t, ho, hex, hd, g, nd, hm, hb, hf, hn, hr, hl⟩ := hS
    have I2 : Inv X pins σ H1 { s1 with heap := h', toks := tk } := I1.kept hk
    have gi := goods_ints g
    refine sorted_setG (s := { s1 with heap := h', toks := tk }) ⟨o, ho, hex.1, hd⟩ (I1.ok.hd hc) hf hb hr hl SrtO.swo_int (fun vs pm h2 s2 a' kp ha' => ?_) fun s' p out cc k g1 o1 hp hg pm hs => ?_
    · obtain ⟨j1, j2⟩ : IntsAre vs (vs.map SrtO.iv) ∧ True := ⟨SrtO.ints_iv fun v hv => SrtO.ints_mem gi v (pm.mem_iff.mp hv), trivial⟩
      exact SrtO.ints_sortable j1 h2
    · have j1 : IntsAre out (out.map SrtO.iv) := SrtO.ints_iv fun v hv => SrtO.ints_mem gi v (pm.mem_iff.mp hv)
      have pk : (out.map SrtO.iv).Perm (es.toList.map L2.keyOf) := by
        have z := pm.map SrtO.iv
        rw [ints_iv' gi] at z
        exact z
      have pw : (out.map SrtO.iv).Pairwise (fun a b => ltI a b = true) := strict_of sto_int (List.pairwise_map.mpr hs) (pk.nodup_iff.mpr nd)
      have e : out.map SrtO.iv = usrt ltI ns := sto_uniq sto_int pw (usrt_pw sto_int ns) fun k => by
        rw [pk.mem_iff, ← hm k, usrt_mem sto_int]
        simp
      have rv : Vals ((usrt ltI ns).map V.int) out := by rw [← e]; exact vals_of_ints j1
      refine sorted_end I2 k g1 o1 hp hg rv ?_ (q1 p)
      rw [rv.length, pm.length_eq, List.length_map, Array.length_toList, sizeLine_eq]
      unfold scanBound at hb
      omega
  · refine call_set_tups (P := X.prog) (w := X.w) ks (I1.ok.hd hc) pl.isList (by simpa using refs_of_vals r) (fun p hp => I1.isT (hk p hp)) hf (by omega) fun h' tk L es ep t R g kk => ?_
    refine PyProof.Rows.args_nil ?_
    have I2 : Inv X pins σ H1 { s1 with heap := h', toks := tk } := I1.kept kk
    obtain ⟨o, ho, hex, hd⟩ := R.ob
    have hes : es.toList.map (·.2) = L.map fun q => Value.ref q.1 := by
      rw [R.rows]
      unfold rowsOf
      rw [List.map_map] <;> rfl
    have sub : ∀ p ∈ L, p ∈ ks := fun p hp => List.mem_of_mem_take (g.sub p hp)
    have tk0 : ∀ q ∈ L, TS.TupInts h' (.ref q.1) q.2 := fun q hq => tupInts_of (P := X.prog) (w := X.w) (R.tup q hq)
    have intsK : ∀ q ∈ L, TS.intsOf h' (.ref q.1) = q.2 := fun q hq => (tk0 q hq).ints
    have val : ∀ v, v ∈ (L.map fun q => Value.ref q.1) → TS.TupInts h' v (TS.intsOf h' v) := fun v hv => by
      obtain ⟨q, hq, e⟩ := List.mem_map.mp hv
      rw [← e, intsK q hq]
      exact tk0 q hq
    have rsz := SetTR.size (s := { s1 with heap := h', toks := tk }) R
    have rfit := SetTR.fits (s := { s1 with heap := h', toks := tk }) R
    have rfew := R.few
    refine sorted_setG (s := { s1 with heap := h', toks := tk }) ⟨o, ho, hex.1, hd⟩ (I1.ok.hd hc) rfit (by unfold scanBound; omega) R.tab.ris R.led (NtL.swo_lexL fun v => TS.intsOf h' v) (fun vs pm h2 s2 a' kp ha' => ?_) fun s' p out cc k g1 o1 hp hg pm hs => ?_
    · rw [hes] at pm
      refine tups_sortable (s := s2) h2 (by first | (simp; omega) | (show X.A.units < cLine; omega)) (fun v hv => (val v (pm.mem_iff.mp hv)).keeps fun b o e _ => kp b o e) fun o e => ?_
      have e' : some o = some (seqObj "list" vs.toArray 0) := e.symm.trans ha'
      cases e'
      intro c
      exact absurd (Value.type.inj c) (by decide)
    · rw [hes] at pm
      have ord : ∀ us : List Value, (∀ v ∈ us, v ∈ L.map fun q => Value.ref q.1) → ∃ L1 : List (Addr × List Int), us = L1.map (fun q => Value.ref q.1) ∧ ∀ q ∈ L1, q ∈ L := by
        intro us
        induction us with
        | nil => intro _; exact ⟨[], rfl, fun q hq => (by cases hq)⟩
        | cons v us ih =>
          intro hv
          obtain ⟨q, hq, e⟩ := List.mem_map.mp (hv v List.mem_cons_self)
          obtain ⟨L1, e1, hs⟩ := ih fun u hu => hv u (List.mem_cons_of_mem _ hu)
          refine ⟨q :: L1, by rw [List.map_cons, e, e1], fun r hr => ?_⟩
          rcases List.mem_cons.mp hr with z | z
          · rw [z]; exact hq
          · exact hs r z
      obtain ⟨L', e1, hs'⟩ := ord out fun v hv => pm.mem_iff.mp hv
      have i2 : ∀ M : List (Addr × List Int), (∀ q ∈ M, q ∈ L) → (M.map fun q => Value.ref q.1).map (TS.intsOf h') = M.map (·.2) := fun M hM => by
        rw [List.map_map]
        exact List.map_congr_left fun q hq => intsK q (hM q hq)
      have pk : (L'.map (·.2)).Perm (L.map (·.2)) := by
        have z := pm.map (TS.intsOf h')
        rw [e1, i2 L' hs', i2 L fun _ h => h] at z
        exact z
      have pw0 : (L'.map (·.2)).Pairwise (fun a b => HT.lexLt b a = false) := by
        have z : (out.map (TS.intsOf h')).Pairwise (fun a b => HT.lexLt b a = false) := List.pairwise_map.mpr hs
        rw [e1, i2 L' hs'] at z
        exact z
      have pw := strict_of sto_lex pw0 (pk.nodup_iff.mpr R.nd)
      have e : L'.map (·.2) = usrt HT.lexLt (ks.map (·.2)) := sto_uniq sto_lex pw (usrt_pw sto_lex _) fun k => by
        rw [pk.mem_iff, usrt_mem sto_lex]
        constructor
        · intro hk
          obtain ⟨p, hp, e⟩ := List.mem_map.mp hk
          exact List.mem_map.mpr ⟨p, sub p hp, e⟩
        · intro hk
          obtain ⟨p, hp, e⟩ := List.mem_map.mp hk
          rw [← e]
          exact g.all p (by rw [List.take_length]; exact hp)
      have rv : Vals (L'.map fun q => V.ref q.1) out := by rw [e1]; exact vals_of_refs L'
      refine sorted_end I2 k g1 o1 hp hg rv ?_ (q1 L' p (fun q hq => sub q (hs' q hq)) e)
      rw [rv.length, pm.length_eq, List.length_map, sizeLine_eq]
      have := R.few
      omega
end
end Mir
set_option Elab.async false
set_option linter.all false
set_option maxRecDepth 100000
set_option maxHeartbeats 4000000
/-! Mir21: sets by mirrors. -/
namespace Mir
open PySem L2 PySem.Spec PyProof.Rows
section
variable {X : Cx} {m : Md} {c : RC} {B O O' L : List Addr} {W : WX} {e a b : Expr} {me ma mb : Mir.Env → M D} {pos : Pos} {σ : L2.St} {H H' : Hp} {Q : VK} {ρ : Mir.Env} {j : List Int} {D' : Ends} {st : Stmt} {sts : List Stmt}
def toTups : List D → Option (List (List Int))
  | [] => some []
  | .tup ds :: r => match toInts ds, toTups r with
    | some k, some ks => some (k :: ks)
    | _, _ => none
  | _ :: _ => none
theorem reps_tups : ∀ {ds : List D} {vs : List V} {ks : List (List Int)}, toTups ds = some ks → Reps c L H ds vs → ∃ kas : List (Addr × List Int), kas.map (·.2) = ks ∧ vs = kas.map (fun p => V.ref p.1) ∧ ∀ p ∈ kas, TupAt c L H p.1 (p.2.map V.int)
  | [], vs, ks, h, r => by
    cases h; subst r
    exact ⟨[], rfl, rfl, fun p hp => nomatch hp⟩
  | d :: ds, vs, ks, h, r => by
    cases d <;> try cases h
    rename_i xs
    unfold toTups at h
    cases q : toInts xs with
    | none => rw [q] at h; cases h
    | some k =>
      rw [q] at h
      cases q2 : toTups ds with
      | none => rw [q2] at h; cases h
      | some ks' =>
        rw [q2] at h
        cases h
        obtain ⟨v, r', rfl, ⟨a, ws, rfl, t, rr⟩, r2⟩ := r
        obtain ⟨kas, e1, rfl, hk⟩ := reps_tups q2 r2
        have e2 := rr.ints q
        subst e2
        exact ⟨(a, k) :: kas, by rw [List.map_cons, e1], rfl, fun p hp => (List.mem_cons.mp hp).elim (fun e => by subst e; exact t) (hk p)⟩
theorem reps_of_kas : ∀ {kas : List (Addr × List Int)}, (∀ p ∈ kas, TupAt c L H p.1 (p.2.map V.int)) → Reps c L H (kas.map fun p => D.tup (p.2.map D.int)) (kas.map fun p => V.ref p.1)
  | [], _ => rfl
  | p :: kas, h => ⟨_, _, rfl, ⟨p.1, p.2.map V.int, rfl, h p List.mem_cons_self, Reps.ofInts _⟩, reps_of_kas fun q hq => h q (List.mem_cons_of_mem _ hq)⟩
def dSrtSetL (ds : List D) : Option (List Int) → Option (List (List Int)) → M D
  | some is, _ => need (is.length + 1 < 4096) (ret (.lst ((usrt ltI is).map .int)))
  | none, some ks => need (ks.length < 64) (ret (.lst ((usrt HT.lexLt ks).map fun k => .tup (k.map .int))))
  | _, _ => stuck
def dSrtSet (d : D) : M D := match d with
  | .lst ds => dSrtSetL ds (toInts ds) (toTups ds)
  | _ => stuck
theorem me_srtSet {p p2 q : Pos} (hK : X.K = c.K) (hu : X.A.units + 65 < cLine) (hm : X.mg "sorted" = none) (hm2 : X.mg "set" = none) (ha : ME X .look c B W a ma) (hc : X.calm = true := by rfl) (hg : Gl X "sorted" := by rfl) (hg2 : Gl X "set" := by rfl)
    (na : starEach [a] X.env = (false, eval a X.env) :: starEach [] X.env := by rfl) : ME X m c B W (.Call (.Name "sorted" p) [.Call (.Name "set" p2) [a] [] q] [] pos) (mUn dSrtSet ma) :=
  me_mono (pe_srtSet hc hu hm hm2 ha hg hg2 na) fun σ H Q ⟨O, ρ, j, rel, out⟩ => rd_bnd rel out fun d j1 v H1 rel1 e1 rp out1 => by
    unfold dSrtSet at out1
    split at out1 <;> first | exact out1.elim | skip
    rename_i ds
    obtain ⟨l, vs, rfl, t, r⟩ := rp.lst
    refine ⟨l, vs, rfl, SqL.of t, ?_⟩
    cases qi : toInts ds with
    | some is =>
      rw [qi] at out1
      have ei := r.ints qi
      subst ei
      obtain ⟨h1, o⟩ := need_out (r := .stk) out1
      exact .inl ⟨is, rfl, h1, fun p hp => Out.newL rel1 o (Reps.ofInts _) hp⟩
    | none =>
      rw [qi] at out1
      cases qk : toTups ds with
      | none => rw [qk] at out1; exact out1.elim
      | some ks =>
        rw [qk] at out1
        obtain ⟨kas, e2, rfl, hk⟩ := reps_tups qk r
        obtain ⟨h1, o⟩ := need_out (r := .stk) out1
        refine .inr ⟨kas, rfl, fun p hp => by rw [hK]; exact (hk p hp).sq, by rw [← e2, List.length_map] at h1; exact h1, fun L' p hs e hp => ?_⟩
        refine Out.newL rel1 o ?_ hp
        rw [← e2, ← e, List.map_map]
        exact reps_of_kas fun q hq => hk q (hs q hq)
/-! ### set(xs) -/
def tSetI (K : PySem.W.Frag) (ta : TE) : TE := fun σ H Q => ta σ H fun x H1 => ∃ (l : Addr) (ns : List Int), x = V.ref l ∧ SqL K H1 l (ns.map V.int) ∧ ns.length + 1 < scanBound ∧ ∀ p n, H1 p = none → Q (.ref p) (upd H1 p (.set (fun k => decide (k ∈ ns)) n))
theorem pe_setL {a : Expr} {ta : TE} {p pos : Pos} (hc : X.calm = true) (hm : X.mg "set" = none) (ha : PE X a ta) (hg : Gl X "set" := by rfl) (na : starEach [a] X.env = (false, eval a X.env) :: starEach [] X.env := by rfl) :
    PE X (.Call (.Name "set" p) [a] [] pos) (tSetI X.K ta) := by
  refine ⟨fun pins s σ H Q I h => ?_⟩
  refine Call_ (ld_blt I hg hm PyProof.Rows.boot_set ?_)
  refine PyProof.Rows.callWith_type1 (PyProof.Rows.args_cons (thn (ha.run pins s σ H _ I h) fun v s1 ⟨x, H1, I1, r1, q1⟩ => PyProof.Rows.args_nil ?_) na) na rfl
  obtain ⟨l, ns, rfl, hq, hb, q⟩ := q1
  cases r1
  obtain ⟨its, r, pl, hz⟩ := I1.list hq
  refine call_set_lstI (P := X.prog) (w := X.w) ns (I1.ok.hd hc) pl.isList (by simpa using r.ints) hb fun h' tk cc hS hc' hk => ?_
  have hn : H1 s1.heap.objs.size = none := I1.hok.fresh (Nat.le_refl _)
  exact ⟨.ref s1.heap.objs.size, _, I1.laid (t' := tk) (o := .set (fun k => decide (k ∈ ns)) cc) hk (Nat.le_refl _) hS.setOf, rfl, q _ _ hn⟩
def dSet (d : D) : M D := match d with
  | .lst ds => onInts ds fun is => need (is.length + 1 < 4096) (ret (.set is))
  | _ => stuck
theorem me_setL {p : Pos} (hm : X.mg "set" = none) (ha : ME X .look c B W a ma) (hc : X.calm = true := by rfl) (hg : Gl X "set" := by rfl) (na : starEach [a] X.env = (false, eval a X.env) :: starEach [] X.env := by rfl) :
    ME X m c B W (.Call (.Name "set" p) [a] [] pos) (mUn dSet ma) :=
  me_mono (pe_setL hc hm ha hg na) fun σ H Q ⟨O, ρ, j, rel, out⟩ => rd_bnd rel out fun d j1 v H1 rel1 e1 rp out1 => by
    unfold dSet at out1
    split at out1 <;> first | exact out1.elim | skip
    obtain ⟨l, vs, rfl, t, r⟩ := rp.lst
    obtain ⟨is, _, rfl, o⟩ := onInts_out out1 r
    obtain ⟨h1, o⟩ := need_out (r := .stk) o
    refine ⟨l, is, rfl, SqL.of t, h1, fun p n hp => ?_⟩
    exact o (.ref p) _ (ExS.new hp) (rel1.jar.new hp) (RepM.of rel1.jL ⟨p, n, rfl, rel1.fresh hp, upd_same⟩ rfl)
/-! ### k in set -/
def rSInH : R2 := fun x y H Q => ∃ k a S n, x = V.int k ∧ y = V.ref a ∧ H a = some (.set S n) ∧ Q (.bl (S k)) H
def rSNotInH : R2 := fun x y H Q => ∃ k a S n, x = V.int k ∧ y = V.ref a ∧ H a = some (.set S n) ∧ Q (.bl (!S k)) H
theorem op_sin : OpR X (compareOp .In) rSInH := by
  intro pins s σ H x y v u Q I rx ry h
  obtain ⟨k, a, S, n, rfl, rfl, ha, q⟩ := h
  obtain ⟨tk, rfl⟩ := rx
  cases ry
  have h : ObjOk X.prog X.w H s.heap a (.set S n) := I.hok a _ ha
  exact wpAny_inSet_of (intKind_is _ _ _ _) rfl h ⟨.bl (S k), H, I.tok _, rfl, q⟩
theorem op_snotin : OpR X (compareOp .NotIn) rSNotInH := by
  intro pins s σ H x y v u Q I rx ry h
  obtain ⟨k, a, S, n, rfl, rfl, ha, q⟩ := h
  obtain ⟨tk, rfl⟩ := rx
  cases ry
  have h : ObjOk X.prog X.w H s.heap a (.set S n) := I.hok a _ ha
  exact wpAny_notInSet_of (intKind_is _ _ _ _) rfl h ⟨.bl (!S k), H, I.tok _, rfl, q⟩
def dInS : D → D → M D := fun x y => match x, y with
  | .int k, .set ns => ret (.bl (decide (k ∈ ns)))
  | _, _ => stuck
def dNotInS : D → D → M D := fun x y => match x, y with
  | .int k, .set ns => ret (.bl (!decide (k ∈ ns)))
  | _, _ => stuck
theorem ok_inS : Ok2 m c rSInH .look .look dInS := by
  intro B O W ρ j σ H Q x y v w rel ⟨_, rx⟩ ⟨_, ry⟩ out
  unfold dInS at out
  split at out <;> first | exact out.elim | skip
  cases (show v = .int _ from rx)
  obtain ⟨a, n, rfl, _, t⟩ := (show Rep c (O ++ B) H (.set _) w from ry)
  exact ⟨_, a, _, n, rfl, rfl, t, out.val rel rfl⟩
theorem ok_notInS : Ok2 m c rSNotInH .look .look dNotInS := by
  intro B O W ρ j σ H Q x y v w rel ⟨_, rx⟩ ⟨_, ry⟩ out
  unfold dNotInS at out
  split at out <;> first | exact out.elim | skip
  cases (show v = .int _ from rx)
  obtain ⟨a, n, rfl, _, t⟩ := (show Rep c (O ++ B) H (.set _) w from ry)
  exact ⟨_, a, _, n, rfl, rfl, t, out.val rel rfl⟩
end
end Mir
set_option Elab.async false
set_option linter.all false
set_option maxRecDepth 100000
set_option maxHeartbeats 4000000
/-! Mir22: tuple(range(..)), a module's dict with text keys. -/
namespace Mir
open PySem L2 PySem.Spec PyProof.Rows
section
variable {X : Cx} {m : Md} {c : RC} {B O O' L : List Addr} {W : WX} {e a b : Expr} {me ma mb : Mir.Env → M D} {pos : Pos} {σ : L2.St} {H H' : Hp} {Q : VK} {ρ : Mir.Env} {j : List Int} {D' : Ends} {st : Stmt} {sts : List Stmt}
/-! ### tuple(range(..)) -/
theorem reps_rg (a b : Int) : Reps c L H (rangeD a (b - a).toNat) (rgV a b) := by
  unfold rangeD rgV
  generalize (List.range (b - a).toNat) = l
  induction l with
  | nil => rfl
  | cons i l ih => exact ⟨_, _, rfl, rfl, ih⟩
abbrev rgOk (a b : Int) : Prop := -(2 ^ 62) ≤ a ∧ a < 2 ^ 62 ∧ -(2 ^ 62) ≤ b ∧ b < 2 ^ 62 ∧ (b - a).toNat ≤ 2 ^ 24
def dTupRg1 : D → M D
  | .int n => need (rgOk 0 n) (ret (.tup (rangeD 0 (n - 0).toNat)))
  | _ => stuck
def dTupRg2 : D → D → M D
  | .int i, .int n => need (rgOk i n) (ret (.tup (rangeD i (n - i).toNat)))
  | _, _ => stuck
theorem me_tupRg1 {p p2 q : Pos} (hm : X.mg "tuple" = none) (hm2 : X.mg "range" = none) (ha : ME X .look c B W a ma) (hc : X.calm = true := by rfl) (hg : Gl X "tuple" := by rfl) (hg2 : Gl X "range" := by rfl)
    (na : starEach [a] X.env = (false, eval a X.env) :: starEach [] X.env := by rfl) (na2 : starEach [Expr.Call (.Name "range" p2) [a] [] q] X.env = (false, eval (Expr.Call (.Name "range" p2) [a] [] q) X.env) :: starEach [] X.env := by rfl) :
    ME X m c B W (.Call (.Name "tuple" p) [.Call (.Name "range" p2) [a] [] q] [] pos) (mUn dTupRg1 ma) :=
  me_mono (pe_tupRgF hc hg hm (prg_1 hg2 hm2 ha na) na2) fun σ H Q ⟨O, ρ, j, rel, out⟩ => rd_bnd rel out fun d j1 v H1 rel1 e1 rp out1 => by
    unfold dTupRg1 at out1
    split at out1 <;> first | exact out1.elim | skip
    cases rp.int
    obtain ⟨h1, o⟩ := need_out (r := .stk) out1
    exact ⟨_, rfl, h1, Out.newT rel1 o (reps_rg _ _)⟩
theorem me_tupRg2 {p p2 q : Pos} (hm : X.mg "tuple" = none) (hm2 : X.mg "range" = none) (ha : ME X .look c B W a ma) (hb : ME X .look c B W b mb) (hc : X.calm = true := by rfl) (hg : Gl X "tuple" := by rfl) (hg2 : Gl X "range" := by rfl)
    (na : starEach [a, b] X.env = (false, eval a X.env) :: starEach [b] X.env := by rfl) (nb : starEach [b] X.env = (false, eval b X.env) :: starEach [] X.env := by rfl) (hp : (backTo q (starEach [b] X.env)).any (·.1) = false := by rfl)
    (na2 : starEach [Expr.Call (.Name "range" p2) [a, b] [] q] X.env = (false, eval (Expr.Call (.Name "range" p2) [a, b] [] q) X.env) :: starEach [] X.env := by rfl) :
    ME X m c B W (.Call (.Name "tuple" p) [.Call (.Name "range" p2) [a, b] [] q] [] pos) (mBin dTupRg2 ma mb) :=
  me_mono (pe_tupRgF hc hg hm (prg_2 hg2 hm2 ha hb na nb hp) na2) fun σ H Q ⟨O, ρ, j, rel, out⟩ => rd_bnd (m' := .look) rel out fun d j1 v H1 rel1 e1 rp out1 => rd_bnd (m' := .look) rel1 out1 fun d2 j2 v2 H2 rel2 e2 rp2 out2 => by
    unfold dTupRg2 at out2
    split at out2 <;> first | exact out2.elim | skip
    cases rp.int
    cases rp2.int
    obtain ⟨h1, o⟩ := need_out (r := .stk) out2
    exact ⟨_, _, rfl, rfl, h1, Out.newT rel2 o (reps_rg _ _)⟩
/-! ### a module's dict, text keys -/
structure GDict (c : RC) (K : PySem.W.Frag) (w : World) (mg : Str → Option Value) (x : Str) (kvs : List (Str × D)) : Prop where
  ex : ∃ (d : Addr) (es : Array DictEntry) (n : Nat), mg x = some (.ref d) ∧ KDict K w d es n ∧ ∀ p ∈ kvs, ∃ u v, PySem.W.nsIn K d p.1 = some (some u) ∧ RelV v u ∧ ∀ L H, Rep c L H p.2 v
def dHasG (r : Bool) (kvs : List (Str × D)) (d : D) : M D := match d with
  | .str z => match kvs.lookup z with
    | some _ => ret (.bl r)
    | none => stuck
  | _ => stuck
abbrev dInG := dHasG true
abbrev dNotInG := dHasG false
def dIxG (kvs : List (Str × D)) (d : D) : M D := match d with
  | .str z => match kvs.lookup z with
    | some e => need (isMut e = false) (ret e)
    | none => stuck
  | _ => stuck
theorem lookup_mem {α : Type} {l : List (Str × α)} {z : Str} {e : α} (h : l.lookup z = some e) : (z, e) ∈ l := by
  induction l with
  | nil => cases h
  | cons p l ih =>
    obtain ⟨k, v⟩ := p
    rw [List.lookup_cons] at h
    split at h
    · rename_i q
      cases h
      have e : z = k := by simpa using q
      rw [e]; exact List.mem_cons_self
    · exact List.mem_cons_of_mem _ (ih h)
theorem rd_str {z : Str} {v : V} (h : RepB c L H (.str z) v) : v = .str z := h
section
variable {x : Str} {kvs : List (Str × D)} {k p : Pos}
abbrev rInG (K : PySem.W.Frag) (d : Addr) (neg : Bool) : R2 := fun x y H Q => ∃ (z : Str) (r : Option Value), x = .str z ∧ y = .ref d ∧ PySem.W.nsIn K d z = some r ∧ Q (.bl (if neg then !r.isSome else r.isSome)) H
theorem tOp_inG {neg : Bool} {d : Addr} (G : ∀ p ∈ kvs, ∃ u v, PySem.W.nsIn X.K d p.1 = some (some u) ∧ RelV v u ∧ ∀ L H, Rep c L H p.2 v)
    (h : rd m c B W (mUn (if neg then dNotInG kvs else dInG kvs) ma) σ H Q) : tOp (rInG X.K d neg) (rd .look c B W ma) (fun σ H Q => Q (.ref d) H) σ H Q := by
  obtain ⟨O, ρ, j, rel, out⟩ := h
  refine rd_bnd (m' := .look) rel out fun d' j1 v H1 rel1 e1 rp out1 => ?_
  have go : ∀ {r : Bool}, Out m c (O ++ B) W σ H1 Q (dHasG r kvs d' j1) →
      ∃ (z : Str) (u : Value), v = .str z ∧ PySem.W.nsIn X.K d z = some (some u) ∧ Q (.bl r) H1 := fun {r} o => by
    cases d' <;> first | exact o.elim | skip
    rename_i z
    unfold dHasG at o
    dsimp only at o
    cases q : kvs.lookup z with
    | none => rw [q] at o; exact o.elim
    | some e =>
      rw [q] at o
      obtain ⟨u, v0, h1, _, _⟩ := G _ (lookup_mem q)
      exact ⟨z, u, rd_str (c := c) (L := O ++ B) (H := H1) rp, h1, o.val rel1 rfl⟩
  cases neg with
  | false =>
    obtain ⟨z, u, h1, h2, h3⟩ := go (r := true) out1
    exact ⟨z, some u, h1, rfl, h2, h3⟩
  | true =>
    obtain ⟨z, u, h1, h2, h3⟩ := go (r := false) out1
    exact ⟨z, some u, h1, rfl, h2, h3⟩
theorem me_inG (hK : X.K = c.K) (G : GDict c X.K X.w X.mg x kvs) (ha : ME X .look c B W a ma) (hg : Gl X x := by rfl) (hd : (x == ("__debug__" : Str)) = false := by decide) : ME X m c B W (.Compare a [.In] [.Name x p] pos) (mUn (dInG kvs) ma) := by
  obtain ⟨d, es, n, e, D0, g⟩ := G
  exact me_mono (pe_cmpR (r := rInG X.K d false) (op_in_kd D0) ha (pe_glob (v := .ref d) hg e rfl hd) rfl) fun σ H Q h => tOp_inG (neg := false) g h
theorem me_notInG (hK : X.K = c.K) (G : GDict c X.K X.w X.mg x kvs) (ha : ME X .look c B W a ma) (hg : Gl X x := by rfl) (hd : (x == ("__debug__" : Str)) = false := by decide) : ME X m c B W (.Compare a [.NotIn] [.Name x p] pos) (mUn (dNotInG kvs) ma) := by
  obtain ⟨d, es, n, e, D0, g⟩ := G
  exact me_mono (pe_cmpR (r := rInG X.K d true) (op_notIn_kd D0) ha (pe_glob (v := .ref d) hg e rfl hd) rfl) fun σ H Q h => tOp_inG (neg := true) g h
theorem tTest_inG {neg : Bool} {d : Addr} {Q : Bool → Hp → Prop} (G : ∀ p ∈ kvs, ∃ u v, PySem.W.nsIn X.K d p.1 = some (some u) ∧ RelV v u ∧ ∀ L H, Rep c L H p.2 v)
    (h : rdT c B W (mAsB (mUn (if neg then dNotInG kvs else dInG kvs) ma)) σ H Q) : tTest (tOp (rInG X.K d neg) (rd .look c B W ma) (fun σ H Q => Q (.ref d) H)) σ H Q := by
  obtain ⟨O, ρ, j, rel, out⟩ := h
  refine tOp_inG (m := .keep) G ?_
  exact rd_bndT rel out fun d j1 v H1 rel1 e1 rp out1 => by
    cases d with
    | bl b => exact ⟨b, rp, out1.val rel1⟩
    | _ => exact out1.elim
theorem mt_inG (hK : X.K = c.K) (G : GDict c X.K X.w X.mg x kvs) (ha : ME X .look c B W a ma) (hg : Gl X x := by rfl) (hd : (x == ("__debug__" : Str)) = false := by decide) : MT X c B W (.Compare a [.In] [.Name x p] pos) (mAsB (mUn (dInG kvs) ma)) := by
  obtain ⟨d, es, n, e, D0, g⟩ := G
  exact mt_mono (pt_cmpR (r := rInG X.K d false) (op_in_kd D0) ha (pe_glob (v := .ref d) hg e rfl hd) rfl) fun σ H Q h => tTest_inG (neg := false) g h
theorem mt_notInG (hK : X.K = c.K) (G : GDict c X.K X.w X.mg x kvs) (ha : ME X .look c B W a ma) (hg : Gl X x := by rfl) (hd : (x == ("__debug__" : Str)) = false := by decide) : MT X c B W (.Compare a [.NotIn] [.Name x p] pos) (mAsB (mUn (dNotInG kvs) ma)) := by
  obtain ⟨d, es, n, e, D0, g⟩ := G
  exact mt_mono (pt_cmpR (r := rInG X.K d true) (op_notIn_kd D0) ha (pe_glob (v := .ref d) hg e rfl hd) rfl) fun σ H Q h => tTest_inG (neg := true) g h
theorem me_ixG (G : GDict c X.K X.w X.mg x kvs) (hb : ME X .look c B W b mb) (hg : Gl X x := by rfl) (hd : (x == ("__debug__" : Str)) = false := by decide) (hs : PlainIx b := by intro _ _; rfl) : ME X m c B W (.Subscript (.Name x p) b pos) (mUn (dIxG kvs) mb) := by
  obtain ⟨d, es, n, e, D0, g⟩ := G
  refine me_mono (pe_ix ix_kdict (pe_glob (v := .ref d) hg e rfl hd) hb hs) fun σ H Q ⟨O, ρ, j, rel, out⟩ => ?_
  refine rd_bnd (m' := .look) rel out fun d' j1 v H1 rel1 e1 rp out1 => ?_
  cases d' <;> first | exact out1.elim | skip
  rename_i z
  unfold dIxG at out1
  dsimp only at out1
  cases q : kvs.lookup z with
  | none => rw [q] at out1; exact out1.elim
  | some d0 =>
    rw [q] at out1
    obtain ⟨u, v0, h1, h2, h3⟩ := g _ (lookup_mem q)
    obtain ⟨hm, o⟩ := need_out (r := .stk) out1
    exact ⟨d, z, v0, rfl, rd_str (c := c) (L := O ++ B) (H := H1) rp, ⟨es, n, u, D0.at_, D0.lit, h1, h2⟩, o.now rel1 (RepM.of rel1.jL (h3 _ _) hm)⟩
end
end
end Mir
set_option Elab.async false
set_option linter.all false
set_option maxRecDepth 100000
set_option maxHeartbeats 4000000
/-! Mir23: the jar is read and written. -/
namespace Mir
open PySem L2 PySem.Spec PyProof.Rows
section
variable {X : Cx} {m : Md} {c : RC} {B O O' L : List Addr} {W : WX} {e a b : Expr} {me ma mb : Mir.Env → M D} {pos : Pos} {σ : L2.St} {H H' : Hp} {Q : VK} {ρ : Mir.Env} {j : List Int} {D' : Ends} {st : Stmt} {sts : List Stmt}
def jAt (n : Int) : M D := fun j => match ixN j.length n with
  | some q => match j[q]? with
    | some v => .ok (.int v) j
    | none => .stk
  | none => .stk
def dJx : D → D → M D := fun x y => match x, y with
  | .jar, .int n => jAt n
  | _, _ => stuck
theorem me_jix (ha : ME X .look c B W a ma) (hb : ME X .look c B W b mb) (hs : PlainIx b := by intro _ _; rfl) : ME X m c B W (.Subscript a b pos) (mBin dJx ma mb) :=
  me_mono (pe_ix ix_seq ha hb hs) fun σ H Q ⟨O, ρ, j, rel, out⟩ => by
    refine rd_bnd (m' := .look) (k := fun x => bnd (mb ρ) fun y => dJx x y) rel out fun x j1 v H1 rel1 e1 rp1 out1 => ?_
    refine rd_bnd (m' := .look) (k := fun y => dJx x y) rel1 out1 fun y j2 w H2 rel2 e2 rp2 out2 => ?_
    cases x <;> first | exact out2.elim | skip
    cases y <;> first | exact out2.elim | skip
    rename_i n
    obtain ⟨rfl, hh⟩ := (show v = .ref c.J ∧ c.has = true from rp1)
    cases (show w = .int _ from rp2)
    have out2 : Out m c (O ++ B) W σ H2 Q (jAt n j2) := out2
    unfold jAt at out2
    cases q : ixN j2.length n with
    | none => rw [q] at out2; exact out2.elim
    | some k =>
      rw [q] at out2
      dsimp only at out2
      cases z : j2[k]? with
      | none => rw [z] at out2; exact out2.elim
      | some i =>
        rw [z] at out2
        refine .inl ⟨c.J, _, _, .int i, rfl, rfl, SqL.of (rel2.jar hh), ?_, out2.val rel2 rfl⟩
        unfold atI
        rw [List.length_map, q]
        simp [z]
def jPut (v : Int) (n : Int) (ρ : Mir.Env) : M Mir.Env := fun j => match ixN j.length n with
  | some q => .ok ρ (j.set q v)
  | none => .stk
def gJx (i : Nat) (mk : Mir.Env → M D) : D → Mir.Env → M Mir.Env := fun d ρ => match ρ[i]?, d with
  | some (.val .jar), .int v => bnd (nox (mk ρ)) fun k => match k with
    | .int n => jPut v n ρ
    | _ => stuck
  | _, _ => stuck
theorem mg_jix {i : Nat} {x : Str} {p : Pos} {k : Expr} {mk : Mir.Env → M D} (hk : ME X .look c B W k mk) (hi : X.N[i]? = some x := by rfl) (hv : Vis X.env.scope x := by first | exact Or.inl rfl | exact Or.inr (Or.inl rfl) | exact Or.inr (Or.inr rfl))
    (hd : (x == ("__debug__" : Str)) = false := by decide) (hcd : (x == ("__classdict__" : Str)) = false := by decide)
    (ha : ∀ v, assign (.Subscript (.Name x p) k pos) X.env v = (do
      let ov ← holding [v] (eval (.Name x p) X.env)
      let iv ← holding [v, ov] (eval k X.env)
      standAt pos
      holding [v, ov, iv] (setItem ov iv v)
      release [v, ov, iv] []) := by intro _; rfl) : MG X c B (.Subscript (.Name x p) k pos) (gJx i mk) :=
  pg_mono (pg_sub (pe_var hi hv hd hcd) hk set_list ha) fun v σ H Q ⟨O, ρ, j, d, rel, rp, out⟩ => by
    unfold gJx at out
    cases q : ρ[i]? with
    | none => rw [q] at out; exact out.elim
    | some s =>
      rw [q] at out
      cases s <;> first | exact out.elim | skip
      rename_i d0
      cases d0 <;> first | exact out.elim | skip
      cases d <;> first | exact out.elim | skip
      rename_i v0
      cases (show v = .int _ from rp)
      have hi' : i < σ.length := by rw [rel.len]; exact (List.getElem?_eq_some_iff.mp q).1
      obtain ⟨vv, e1, e2⟩ := rel.sl i _ σ[i] q (by simp [hi'])
      obtain ⟨rfl, hh⟩ := (show vv = .ref c.J ∧ c.has = true from e2)
      have es : σ[i]? = some (some (.ref c.J)) := by rw [List.getElem?_eq_getElem hi', e1]
      refine ⟨.ref c.J, es, nox_rd (m' := .look) (k := fun k => match k with
        | .int n => jPut v0 n ρ
        | _ => stuck) rel out fun kd j1 w H1 rel1 ee kp out1 => ?_⟩
      cases kd <;> first | exact out1.elim | skip
      rename_i n
      cases kp.int
      have out1 : OutG c B O H1 Q (jPut v0 n ρ j1) := out1
      unfold jPut at out1
      cases z : ixN j1.length n with
      | none => rw [z] at out1; exact out1.elim
      | some y =>
        rw [z] at out1
        have ex : Ex c H1 (upd H1 c.J (.lst ((j1.map V.int).set y (.int v0)))) := fun a o n h => by
          rw [upd_ne (fun e => n (RC.mem_Js.mpr ⟨hh, e⟩))]; exact h
        have hj : JarAt c (upd H1 c.J (.lst ((j1.map V.int).set y (.int v0)))) (j1.set y v0) := by
          intro _
          show upd _ _ _ _ = _
          rw [upd_same, List.map_set]
        refine ⟨c.J, _, n, y, rfl, rfl, rel1.jar hh, by rw [List.length_map]; exact z, ?_⟩
        exact out1 O σ _ (Grow.ex ex) (rel1.ex ex hj)
end
end Mir
set_option Elab.async false
set_option linter.all false
set_option maxRecDepth 100000
set_option maxHeartbeats 4000000
/-! Mir24: what the generated texts lean on. -/
namespace Mir
open PySem L2 PySem.Spec PyProof.Rows
/-- what the written part says of a def -/
structure DefT (K : PySem.W.Frag) (mg : Str → Option Value) (x qual : Str) (st : Stmt) (ps : List Str) (f : Addr) (fd : FuncData) : Prop where
  g : mg x = some (.ref f)
  kp : PySem.W.keepIn K (.ref f) = true
  F : Fun K x qual st f fd
  b : Binds K fd ps []
/-- of a method -/
structure MefT (K : PySem.W.Frag) (x qual : Str) (st : Stmt) (ps : List Str) (f : Addr) (fd : FuncData) : Prop where
  F : Fun K x qual st f fd
  b : Binds K fd ps []
theorem GRep.at {c : RC} {mg : Str → Option Value} {x : Str} {d : D} (G : GRep c mg x d) (y : Addr) : GRep (c.at y) mg x d := by
  obtain ⟨u, v, e, r, g⟩ := G
  exact ⟨u, v, e, r, fun L H => Rep.at d v (g L H)⟩
theorem GDict.at {c : RC} {K : PySem.W.Frag} {w : World} {mg : Str → Option Value} {x : Str} {kvs : List (Str × D)} (G : GDict c K w mg x kvs) (y : Addr) : GDict (c.at y) K w mg x kvs := by
  obtain ⟨d, es, n, e, k, g⟩ := G
  refine ⟨d, es, n, e, k, fun p hp => ?_⟩
  obtain ⟨u, v, h1, h2, h3⟩ := g p hp
  exact ⟨u, v, h1, h2, fun L H => Rep.at _ v (h3 L H)⟩
theorem InsK.at {c : RC} {k : Nat} (h : InsK c k) (y : Addr) : InsK (c.at y) k := by
  cases h; constructor <;> assumption
theorem NotB.at {c : RC} {T : Ty} {k : Nat} (h : NotB c T k) (y : Addr) : NotB (c.at y) T k := ⟨h.1.at y, h.2⟩
theorem ClsI.at {c : RC} {k0 : Nat} {known : List Nat} (h : ClsI c k0 known) (y : Addr) : ClsI (c.at y) k0 known := ⟨h.ty, fun k hk => ⟨(h.ins k hk).1.at y, (h.ins k hk).2⟩⟩
def mNever : Mir.Env → M Fl := fun _ => stuck
theorem ms_nv {X : Cx} {c : RC} {B : List Addr} {W : WX} {st : Stmt} : MS X c B W st mNever := ms_never (ms := mNever)
theorem propT_of {X : Cx} {c : RC} {f : Str} {k n : Nat} {g : Addr} {fd : FuncData} {ps : List Str} {fm : List D → M D} (cl : Cls X.K (c.cls k)) (P : ∃ p, PropOf X.K (c.cls k) f p g) (F : FnOk X.prog X.w X.K X.mg X.base (L2.CX X.prog X.w) n g fd ps (spD c 1 fm)) (hr : Room (n + 1) X.A)
    (b : Binds X.K fd ps []) : PropT X c f k fm := by
  obtain ⟨p, hp⟩ := P
  exact ⟨n, p, g, fd, ps, cl, hp, F, hr, b⟩
theorem propN {X : Cx} {c : RC} {f : Str} : ∀ p ∈ ([] : List (Nat × (List D → M D))), PropT X c f p.1 p.2 := fun _ h => nomatch h
theorem propL {X : Cx} {c : RC} {f : Str} {k : Nat} {fm : List D → M D} {L : List (Nat × (List D → M D))} (h : PropT X c f k fm) (r : ∀ p ∈ L, PropT X c f p.1 p.2) : ∀ p ∈ (k, fm) :: L, PropT X c f p.1 p.2 := fun p hp => by
  rcases List.mem_cons.mp hp with e | hp
  · rw [e]; exact h
  · exact r p hp
end Mir
set_option Elab.async false
set_option linter.all false
set_option maxRecDepth 100000
set_option maxHeartbeats 4000000
/-! Mir25: an own list is given away for the time of an expression whose value is flat. -/
namespace Mir
open PySem L2 PySem.Spec PyProof.Rows
section
variable {X : Cx} {m : Md} {c : RC} {B O O' L : List Addr} {W : WX} {e a b : Expr} {me ma mb : Mir.Env → M D} {pos : Pos} {σ : L2.St} {H H' : Hp} {Q : VK} {ρ : Mir.Env} {j : List Int}
def isFlat : D → Bool
  | .non => true
  | .bl _ => true
  | .int _ => true
  | .str _ => true
  | _ => false
def mUnown (i : Nat) (me : Mir.Env → M D) : Mir.Env → M D := fun ρ => bnd (nox (me (frz i ρ))) fun d => need (isFlat d = true) (ret d)
theorem me_unown (i : Nat) (h : ME X .look c B W e me) : ME X m c B W e (mUnown i me) := me_mono h fun σ H Q ⟨O, ρ, j, rel, out⟩ => by
  obtain ⟨O', hs, rel'⟩ := rel.frz i
  refine ⟨O', frz i ρ, j, rel', ?_⟩
  unfold mUnown bnd nox at out
  cases q : me (frz i ρ) j with
  | ok d j1 =>
    rw [q] at out
    intro v H1 e1 hj rp
    obtain ⟨hf, o⟩ := need_out (r := .stk) (Q := Q) (M' := ret d) (p := isFlat d = true) (j := j1) out
    have rp' : Rep c (O ++ B) H1 d v := by
      cases d <;> first | exact rp | cases hf
    have hm : isMut d = false := by cases d <;> first | rfl | cases hf
    exact o v H1 e1 hj (RepM.of rel.jL rp' hm)
  | exc k g j' => rw [q] at out; exact out.elim
  | stk => rw [q] at out; exact out.elim
end
end Mir
set_option Elab.async false
set_option linter.all false
set_option maxRecDepth 100000
set_option maxHeartbeats 4000000
/-! Mir26: defs whose values are new; a jar's def called on a new list of ints. -/
namespace Mir
open PySem L2 PySem.Spec PyProof.Rows
section
variable {X : Cx} {m : Md} {c : RC} {B O O' L : List Addr} {W : WX} {e a b : Expr} {me ma mb : Mir.Env → M D} {pos : Pos} {σ : L2.St} {H H' : Hp} {Q : VK} {ρ : Mir.Env} {j : List Int}
/-- what a def is worth whose value is new -/
def spF (c : RC) (n : Nat) (f : List D → M D) : Sp := fun vs H Q E => vs.length = n ∧ ∃ (L : List Addr) (j : List Int) (ds : List D), InJ c L ∧ (∀ a ∈ L, H a ≠ none) ∧ JarAt c H j ∧ Reps c L H ds vs ∧ Out .fresh c L (fun cls d _ H => E cls d H) [] H Q (f ds j)
def mDefF (n : Nat) (ms : Mir.Env → M Fl) : List D → M D := fun ds => bnd (ms (envOf n ds)) fun f => match f with
  | .rt d => need (isMut d = false) (ret d)
  | .rtF d => ret d
  | .nx _ => ret .non
  | _ => stuck
theorem RepF.sub {L' : List Addr} {H0 : Hp} (s : ∀ x ∈ L', x ∈ L) {d : D} {v : V} (h : RepF c L H0 H d v) : RepF c L' H0 H d v := by
  have s' : ∀ p, ∀ x ∈ p :: L', x ∈ p :: L := fun p x hx => (List.mem_cons.mp hx).elim (fun e => e ▸ List.mem_cons_self) fun z => List.mem_cons_of_mem _ (s x z)
  cases d with
  | lst ds => obtain ⟨a, vs, e1, n, z, t, r⟩ := h; exact ⟨a, vs, e1, fun q => n (s a q), z, t, Reps.sub (s' a) _ _ r⟩
  | dK ks ds => obtain ⟨a, vs, e1, n, z, t, l, r⟩ := h; exact ⟨a, vs, e1, fun q => n (s a q), z, t, l, Reps.sub (s' a) _ _ r⟩
  | ins k ns ds => obtain ⟨a, dx, vs, e1, n, z, t, l, r⟩ := h; exact ⟨a, dx, vs, e1, fun q => n (s a q), z, t, l, Reps.sub (s' a) _ _ r⟩
  | tup ds => exact Rep.sub s (.tup ds) _ h
  | set ns => exact Rep.sub (c := c) s (.set ns) _ h
  | scr ns => exact Rep.sub (c := c) s (.scr ns) _ h
  | _ => exact h
theorem def_outF {n : Nat} {ms : Mir.Env → M Fl} {ds : List D} {E : XK} (out : Out .fresh c L (fun cls d _ H => E cls d H) [] H Q (mDefF n ms ds j)) :
    OutS c L (fun cls d _ H => E cls d H) { nx := fun _ H' => Q .non H', rt := Q } [] H (ms (envOf n ds) j) := by
  have ex : ∀ {O' : List Addr} {H' : Hp}, Grow c [] H O' H' → Ex c H H' := fun g a o n h => g.keep a o (fun z => nomatch z) n h
  unfold mDefF bnd at out
  cases q : ms (envOf n ds) j with
  | stk => rw [q] at out; exact out
  | exc k x j' =>
    rw [q] at out
    exact fun O' ρ' σ' H' dx v g rel rp hd => out dx H' v (ex g) rel.jar (Rep.sub (fun y hy => List.mem_append_right _ hy) _ _ rp) hd
  | ok f j' =>
    rw [q] at out
    cases f with
    | nx ρ' => exact fun O' σ' H' g rel => out .non H' (ex g) rel.jar rfl
    | rt d =>
      obtain ⟨hm, o⟩ := need_out (r := .stk) (Q := Q) (M' := ret d) (p := isMut d = false) (j := j') out
      exact fun O' ρ' σ' H' v g rel rp => o v H' (ex g) rel.jar (RepF.of (Rep.sub (fun y hy => List.mem_append_right _ hy) _ _ rp) hm)
    | rtF d => exact fun O' ρ' σ' H' v g rel rp => out v H' (ex g) rel.jar (RepF.sub (fun y hy => List.mem_append_right _ hy) rp)
    | bk ρ' => exact out.elim
    | ct ρ' => exact out.elim
theorem fn_okF {P : Program} {w : World} {K : PySem.W.Frag} {mg : Str → Option Value} {base : Heap} {x qual : Str} {st : Stmt} {f : Addr} {fd : FuncData} {N ps : List Str} {k : Nat} {ms : Mir.Env → M Fl} (F : Fun K x qual st f fd) (S : FnScope N ps (defScope st))
    (body : ∀ (cdv : Value) (A : Around) (outer : List PySem.Env) (s : Shared) (H : Hp) (E : XK) (B : List Addr), Room k (A.deeper (PyProof.Rows.envOfC qual (defScope st) s.heap.objs.size f cdv)) →
      MSs (cxOf (L2.CX P w) P w K mg base N qual (defScope st) f cdv A outer s H E) c B (fun cls d _ H => E cls d H) (defBody st) ms) :
    FnOk P w K mg base (L2.CX P w) (k + 1) f fd ps (spF c ps.length (mDefF N.length ms)) := by
  refine F.okX S (fun vs H Q E h => h.1) fun cdv A outer s H vs Q E hr h => ?_
  obtain ⟨_, L, j, ds, jL, dom, hj, r, out⟩ := h
  exact ⟨rdS c L (fun cls d _ H => E cls d H) ms, body cdv A outer s H E L hr, [], envOf N.length ds, j, rel_start jL dom hj r, def_outF out⟩
theorem call_spF {n : Nat} {f : List D → M D} {ds : List D} {vs : List V} {E : XK} (rel : Rel c B O ρ j σ H) (r : Reps c (O ++ B) H ds vs) (hE : ∀ cls d H', W cls d σ H' → E cls d H')
    (out : Out m c (O ++ B) W σ H Q ((if ds.length = n then f ds else stuck : M D) j)) : spF c n f vs H Q E := by
  by_cases h : ds.length = n
  · rw [if_pos h] at out
    refine ⟨by rw [← r.len]; exact h, O ++ B, j, ds, rel.jL, rel.dom, rel.jar, r, ?_⟩
    cases q : f ds j with
    | ok d j' => rw [q] at out; exact fun v H' e hj rp => out v H' e hj (RepM.ofF rel.jL rp)
    | exc k g j' => rw [q] at out; exact fun dx H' v e hj rp hd => hE _ _ _ (out dx H' v e hj rp hd)
    | stk => rw [q] at out; exact out
  · rw [if_neg h] at out; exact out.elim
/-- f(e, ..), the value new -/
theorem me_callF {k n : Nat} {f : Addr} {fd : FuncData} {ps : List Str} {fm : List D → M D} {x : Str} {p : Pos} {es : List Expr} {ml : Mir.Env → M (List D)} (F : FnOk X.prog X.w X.K X.mg X.base (L2.CX X.prog X.w) k f fd ps (spF c n fm)) (hr : Room k X.A) (hm : X.mg x = some (.ref f))
    (hk : PySem.W.keepIn X.K (.ref f) = true) (hb : Binds X.K fd ps []) (tk : Takes X W) (ha : MA X c B W (e :: es) ml) (hg : Gl X x := by rfl) (hd : (x == ("__debug__" : Str)) = false := by decide)
    (hst : starEach (e :: es) X.env = (false, eval e X.env) :: starEach es X.env := by rfl) (hpl : ((backTo pos (starEach es X.env)).any fun x => x.1) = false := by rfl) : ME X m c B W (.Call (.Name x p) (e :: es) [] pos) (mCall n fm ml) :=
  me_mono (pe_callS (E := WE W) F hr hg hm hk hb (fun σ => passAt tk σ) ha hd hst hpl) fun σ H Q ⟨O, ρ, j, rel, out⟩ => rdA_bnd (m' := m) rel out fun ds j1 vs H1 rel1 e1 rp out1 => call_spF rel1 rp (fun _ _ _ h => h) out1
/-! ### a jar's def, called on a new list of ints where there is no jar -/
def RC.wj (c : RC) (p : Addr) : RC := { c with J := p, has := true }
mutual
theorem Rep.wj {x : Addr} (nj : c.has = false) : ∀ (d : D) (v : V), Rep c L H d v → Rep (c.wj x) L H d v
  | .non, _, h => h
  | .bl _, _, h => h
  | .int _, _, h => h
  | .str _, _, h => h
  | .tup ds, _, h => by obtain ⟨a, vs, e1, t, r⟩ := h; exact ⟨a, vs, e1, t, Reps.wj nj ds vs r⟩
  | .lst ds, _, h => by obtain ⟨a, vs, e1, n, t, r⟩ := h; exact ⟨a, vs, e1, n, t, Reps.wj nj ds vs r⟩
  | .dK ks ds, _, h => by obtain ⟨a, vs, e1, n, t, l, r⟩ := h; exact ⟨a, vs, e1, n, t, l, Reps.wj nj ds vs r⟩
  | .ins k ns ds, _, h => by obtain ⟨a, dx, vs, e1, n, t, l, r⟩ := h; exact ⟨a, dx, vs, e1, n, t, l, Reps.wj nj ds vs r⟩
  | .jar, _, h => by have z := h.2; rw [nj] at z; cases z
  | .set ns, _, h => h
  | .scr ns, _, h => h
theorem Reps.wj {x : Addr} (nj : c.has = false) : ∀ (ds : List D) (vs : List V), Reps c L H ds vs → Reps (c.wj x) L H ds vs
  | [], _, h => h
  | d :: ds, _, h => by obtain ⟨v, r, e1, h1, h2⟩ := h; exact ⟨v, r, e1, Rep.wj nj d v h1, Reps.wj nj ds r h2⟩
end
theorem GRep.wj {mg : Str → Option Value} {x : Str} {d : D} (G : GRep c mg x d) (nj : c.has = false) (y : Addr) : GRep (c.wj y) mg x d := by
  obtain ⟨u, v, e, r, g⟩ := G
  exact ⟨u, v, e, r, fun L H => Rep.wj nj d v (g L H)⟩
theorem GDict.wj {K : PySem.W.Frag} {w : World} {mg : Str → Option Value} {x : Str} {kvs : List (Str × D)} (G : GDict c K w mg x kvs) (nj : c.has = false) (y : Addr) : GDict (c.wj y) K w mg x kvs := by
  obtain ⟨d, es, n, e, k, g⟩ := G
  refine ⟨d, es, n, e, k, fun p hp => ?_⟩
  obtain ⟨u, v, h1, h2, h3⟩ := g p hp
  exact ⟨u, v, h1, h2, fun L H => Rep.wj nj _ v (h3 L H)⟩
theorem InsK.wj {k : Nat} (h : InsK c k) (y : Addr) : InsK (c.wj y) k := by
  cases h; constructor <;> assumption
theorem NotB.wj {T : Ty} {k : Nat} (h : NotB c T k) (y : Addr) : NotB (c.wj y) T k := ⟨h.1.wj y, h.2⟩
theorem ClsI.wj {k0 : Nat} {known : List Nat} (h : ClsI c k0 known) (y : Addr) : ClsI (c.wj y) k0 known := ⟨h.ty, fun k hk => ⟨(h.ins k hk).1.wj y, (h.ins k hk).2⟩⟩
def intsOf : List D → Option (List Int)
  | [] => some []
  | .int i :: ds => match intsOf ds with
    | some ns => some (i :: ns)
    | none => none
  | _ :: _ => none
theorem intsOf_eq : ∀ {ds : List D} {ns : List Int}, intsOf ds = some ns → ds = ns.map D.int
  | [], _, h => by cases h; rfl
  | d :: ds, ns, h => by
    cases d <;> first | cases h | skip
    rename_i i
    unfold intsOf at h
    cases q : intsOf ds with
    | none => rw [q] at h; cases h
    | some ms => rw [q] at h; cases h; rw [intsOf_eq q]; rfl
theorem Reps.ints_eq : ∀ {ns : List Int} {vs : List V}, Reps c L H (ns.map D.int) vs → vs = ns.map V.int
  | [], _, h => h
  | n :: ns, _, h => by
    obtain ⟨v, r, rfl, h1, h2⟩ := h
    rw [Reps.ints_eq h2, show v = .int n from h1]
    rfl
def dJarC (f : List D → M D) (d : D) : M D := fun j => match d with
  | .lst ds => match intsOf ds with
    | some ns => match f [.jar] ns with
      | .ok r _ => if isFlat r = true then .ok r j else .stk
      | _ => .stk
    | none => .stk
  | _ => .stk
def mCallJ (f : List D → M D) (me : Mir.Env → M D) : Mir.Env → M D := fun ρ => bnd (me ρ) (dJarC f)
theorem FnOk.all {P : Program} {w : World} {K : PySem.W.Frag} {mg : Str → Option Value} {base : Heap} {CX : CXT} {k : Nat} {f : Addr} {fd : FuncData} {ps : List Str} {sp : Addr → Sp} (F : ∀ q, FnOk P w K mg base CX k f fd ps (sp q)) :
    FnOk P w K mg base CX k f fd ps (fun vs H Q E => ∃ q, sp q vs H Q E) := ⟨fun vs H Q E ⟨q, h⟩ => (F q).len vs H Q E h, fun A outer s H args us vs Q E hr he hb hv ⟨q, hs⟩ => (F q).run A outer s H args us vs Q E hr he hb hv hs⟩
theorem me_callJ {k : Nat} {f : Addr} {fd : FuncData} {ps : List Str} {fm : List D → M D} {x : Str} {p : Pos} (F : ∀ q, FnOk X.prog X.w X.K X.mg X.base (L2.CX X.prog X.w) k f fd ps (spD (c.wj q) 1 fm)) (nj : c.has = false) (hr : Room k X.A) (hm : X.mg x = some (.ref f))
    (hk : PySem.W.keepIn X.K (.ref f) = true) (hb : Binds X.K fd ps []) (tk : Takes X W) (he : ME X .fresh c B W e me) (hg : Gl X x := by rfl) (hd : (x == ("__debug__" : Str)) = false := by decide)
    (hst : starEach [e] X.env = (false, eval e X.env) :: starEach [] X.env := by rfl) (hpl : ((backTo pos (starEach [] X.env)).any fun x => x.1) = false := by rfl) : ME X m c B W (.Call (.Name x p) [e] [] pos) (mCallJ fm me) :=
  me_mono (pe_callS (E := WE W) (FnOk.all F) hr hg hm hk hb (fun σ => passAt tk σ) (pa_cons he pa_nil hst) hd hst hpl) fun σ H Q ⟨O, ρ, j, rel, out⟩ => by
    refine ⟨O, ρ, j, rel, ?_⟩
    unfold mCallJ bnd at out
    cases q : me ρ j with
    | stk => rw [q] at out; exact out
    | exc k g j' => rw [q] at out; exact out
    | ok d j1 =>
      rw [q] at out
      intro v H1 e1 hj1 rp
      have rel1 := rel.ex e1 hj1
      dsimp only at out
      unfold dJarC at out
      cases d <;> first | exact out.elim | skip
      rename_i ds
      obtain ⟨a, vs, rfl, na, h0, t, r⟩ := rp
      dsimp only at out
      cases z : intsOf ds with
      | none => rw [z] at out; exact out.elim
      | some ns =>
        rw [z] at out
        have hds := intsOf_eq z
        subst hds
        have hvs := Reps.ints_eq r
        subst hvs
        refine ⟨a, rfl, a :: (O ++ B), ns, [.jar], fun x hx => ?_, fun x hx => ?_, fun _ => t, ⟨_, _, rfl, ⟨rfl, rfl⟩, rfl⟩, ?_⟩
        · obtain ⟨_, hx⟩ := RC.mem_Js.mp hx
          rw [hx]
          exact List.mem_cons_self
        · rcases List.mem_cons.mp hx with hx | hx
          · rw [hx, t]; exact fun w => nomatch w
          · exact rel1.dom x hx
        · dsimp only at out
          cases z2 : fm [.jar] ns with
          | stk => rw [z2] at out; exact out.elim
          | exc k g j' => rw [z2] at out; exact out.elim
          | ok r' j' =>
            rw [z2] at out
            dsimp only at out
            by_cases hf : isFlat r' = true
            · rw [if_pos hf] at out
              intro w H2 e2 hj2 rw2
              have rp' : Rep c (O ++ B) H2 r' w := by cases r' <;> first | exact rw2 | cases hf
              have hmu : isMut r' = false := by cases r' <;> first | rfl | cases hf
              refine out w H2 (fun x o nx hx => ?_) (fun hh => by rw [nj] at hh; cases hh) (RepM.of rel.jL rp' hmu)
              refine e2 x o (fun hz => ?_) (e1 x o nx hx)
              obtain ⟨_, hz⟩ := RC.mem_Js.mp hz
              have hz : x = a := hz
              rw [hz, h0] at hx
              cases hx
            · rw [if_neg hf] at out; exact out.elim
end
end Mir
set_option Elab.async false
set_option linter.all false
set_option maxRecDepth 100000
set_option maxHeartbeats 4000000
/-! Mir27: what the written part says, read off the heap behind the top: facts by names. -/
namespace Mir
open PySem L2 PySem.Spec PyProof.Rows
/-- where a def stands: a global, a class's method, a class's property -/
inductive Loc where
  | g (x : Str) | m (C f : Str) | p (C f : Str)
def prpOf (K : PySem.W.Frag) (p : Addr) : Addr := match PySem.W.recIn K p "property" with
  | some (.ref g :: _) => g
  | _ => 0
def Loc.ad (K : PySem.W.Frag) : Loc → Addr
  | .g x => He.ga K x
  | .m C f => He.ma K (He.ga K C) f
  | .p C f => prpOf K (He.ma K (He.ga K C) f)
structure DefM where
  loc : Loc
  name : Str
  qual : Str
  st : Stmt
def DefM.ad (K : PySem.W.Frag) (d : DefM) : Addr := d.loc.ad K
def fdOf (K : PySem.W.Frag) (a : Addr) : FuncData := match K.lookup a with
  | some ⟨_, _, .func fd, _⟩ => fd
  | _ => default
def fnM (K : PySem.W.Frag) (a : Addr) : He.FnW := match K.lookup a with
  | some ⟨_, _, .func fd, _⟩ => some (fd.name, fd.qualname, fd.params, fd.body, fd.scope, fd.globals, fd.closure, fd.builtins)
  | _ => none
def DefM.val (d : DefM) : He.FnW := some (d.name, d.qual, defArgs d.st, .stmts (defBody d.st), defScope d.st, mainGlobals, [], builtinsNs)
def isNoneV : Value → Bool
  | .none => true
  | _ => false
def DefM.ok (K : PySem.W.Frag) (d : DefM) : Bool := PySem.W.keepIn K (.ref (d.ad K)) && (match K.lookup (d.ad K) with
  | some ⟨_, _, .func fd, _⟩ => PySem.W.codeIn K fd.code d.qual && isNoneV fd.defaults
  | _ => false)
theorem DefM.fn {K : PySem.W.Frag} {d : DefM} (e : fnM K (d.ad K) = d.val) (c : d.ok K = true) : Fun K d.name d.qual d.st (d.ad K) (fdOf K (d.ad K)) := by
  obtain ⟨kp, c2⟩ := He.ba c
  refine ⟨?_, kp⟩
  unfold fnM at e
  unfold fdOf
  cases q : K.lookup (d.ad K) with
  | none =>
    rw [q] at c2
    cases c2
  | some o =>
    obtain ⟨oc, od, dt, osl⟩ := o
    rw [q] at c2 e
    cases dt with
    | func fd =>
      obtain ⟨n1, n2, n3, n4, n5, n6, n7, n8, n9, n10, n11, n12, n13, n14, n15⟩ := fd
      have e2 : (some (n1, n2, n3, n4, n5, n6, n7, n15) : He.FnW) = some (d.name, d.qual, defArgs d.st, .stmts (defBody d.st), defScope d.st, mainGlobals, [], builtinsNs) := e
      simp only [Option.some.injEq, Prod.mk.injEq] at e2
      obtain ⟨h1, h2, h3, h4, h5, h6, h7, h8⟩ := e2
      subst h1 h2 h3 h4 h5 h6 h7 h8
      have c3 : (PySem.W.codeIn K n13 d.qual && isNoneV n8) = true := c2
      obtain ⟨k1, k2⟩ := He.ba c3
      cases n8 <;> first | (cases k2; done) | exact ⟨oc, od, _, _, _, _, _, _, osl, rfl, rfl, k1⟩
    | _ => cases c2
/-! ### constants by value -/
mutual
def relD (K : PySem.W.Frag) : D → Value → Bool
  | .non, u => (match u with
    | .none => true
    | _ => false)
  | .bl b, u => (match u with
    | .bool c => b == c
    | _ => false)
  | .int i, u => (match u with
    | .int j _ => decide (i = j)
    | _ => false)
  | .str x, u => (match u with
    | .str y _ => decide (x = y)
    | _ => false)
  | .tup ds, u => (match u with
    | .ref a => (match K.lookup a with
      | some ⟨.type t, none, .seq its _, _⟩ => decide (t = "tuple") && (decide (its.size ≤ sizeLine) && relDs K ds its.toList)
      | _ => false)
    | _ => false)
  | _, _ => false
def relDs (K : PySem.W.Frag) : List D → List Value → Bool
  | [], us => us.isEmpty
  | d :: ds, us => (match us with
    | u :: us => relD K d u && relDs K ds us
    | [] => false)
end
mutual
theorem relD_ok {c : RC} : ∀ (d : D) (u : Value), relD c.K d u = true → ∃ v, RelV v u ∧ ∀ L H, Rep c L H d v
  | .non, u, h => by
    cases u <;> first | (cases h; done) | exact ⟨.non, rfl, fun _ _ => rfl⟩
  | .bl b, u, h => by
    cases u <;> first | (cases h; done) | skip
    rename_i k
    have e : b = k := eq_of_beq h
    exact ⟨.bl k, rfl, fun _ _ => by rw [e]; rfl⟩
  | .int i, u, h => by
    cases u <;> first | (cases h; done) | skip
    rename_i k t
    have e : i = k := of_decide_eq_true h
    exact ⟨.int k, ⟨t, rfl⟩, fun _ _ => by rw [e]; rfl⟩
  | .str x, u, h => by
    cases u <;> first | (cases h; done) | skip
    rename_i k t
    have e : x = k := of_decide_eq_true h
    exact ⟨.str k, ⟨t, rfl⟩, fun _ _ => by rw [e]; rfl⟩
  | .tup ds, u, h => by
    cases u <;> first | (cases h; done) | skip
    rename_i a
    have h : (match c.K.lookup a with
      | some ⟨.type t, none, .seq its _, _⟩ => decide (t = "tuple") && (decide (its.size ≤ sizeLine) && relDs c.K ds its.toList)
      | _ => false) = true := by
      unfold relD at h
      exact h
    split at h
    · rename_i t its n sl q
      obtain ⟨h1, h2⟩ := He.ba h
      obtain ⟨h3, h4⟩ := He.ba h2
      obtain ⟨vs, r, g⟩ := relDs_ok ds _ h4
      exact ⟨.ref a, rfl, fun L H => ⟨a, vs, rfl, .inr ⟨_, its, n, q, rfl, congrArg Value.type (of_decide_eq_true h1), rfl, of_decide_eq_true h3, r⟩, g L H⟩⟩
    · cases h
  | .lst _, _, h => by cases h
  | .dK _ _, _, h => by cases h
  | .ins _ _ _, _, h => by cases h
  | .jar, _, h => by cases h
  | .set _, _, h => by cases h
  | .scr _, _, h => by cases h
theorem relDs_ok {c : RC} : ∀ (ds : List D) (us : List Value), relDs c.K ds us = true → ∃ vs, Vals vs us ∧ ∀ L H, Reps c L H ds vs
  | [], us, h => by
    cases us with
    | nil => exact ⟨[], .nil, fun _ _ => rfl⟩
    | cons u us => cases h
  | d :: ds, us, h => by
    cases us with
    | nil => cases h
    | cons u us =>
      obtain ⟨h1, h2⟩ := He.ba (show (relD c.K d u && relDs c.K ds us) = true from h)
      obtain ⟨v, r, g⟩ := relD_ok d u h1
      obtain ⟨vs, rs, gs⟩ := relDs_ok ds us h2
      exact ⟨v :: vs, .cons r rs, fun L H => ⟨v, vs, rfl, g L H, gs L H⟩⟩
end
/-! ### facts -/
def tys : List Ty := [.non, .bool, .int, .str, .tup, .lst, .dct]
inductive Ft where
  | free (x : Str)
  | glo (x : Str)
  | con (x : Str) (d : D)
  | keys (x : Str) (kvs : List (Str × D))
  | cls (x : Str)
  | noat (x f : Str)
  | mk (x : Str)
  | prop (x f : Str)
  | ins (x : Str)
  | notb (x : Str) (t : Ty)
  | nott (x : Str)
  | isc (x y : Str) (b : Bool)
  | fnd (x f : Str)
def clsB (K : PySem.W.Frag) (C : Addr) : Bool := PySem.W.plainGet K C Str.empty && (PySem.W.hasDictIn K C && (PySem.W.plainOver K C && He.eqO (PySem.W.findIn K (.ref C) "__setattr__") (some (some (.builtin "object.__setattr__")))))
def Ft.ok (K : PySem.W.Frag) : Ft → Bool
  | .free x => He.eqO (PySem.W.nsIn K mainGlobals x) (some none)
  | .glo x => He.eqO (PySem.W.nsIn K mainGlobals x) (some (some (.ref (He.ga K x))))
  | .con x d => (match PySem.W.nsIn K mainGlobals x with
    | some (some u) => relD K d u
    | _ => false)
  | .keys x kvs => kvs.all fun p => (match PySem.W.nsIn K (He.ga K x) p.1 with
    | some (some u) => relD K p.2 u
    | _ => false)
  | .cls x => clsB K (He.ga K x)
  | .noat x f => He.eqO (PySem.W.findIn K (.ref (He.ga K x)) f) (some none)
  | .mk x => PySem.W.makesIn K (He.ga K x) && (He.eqO (PySem.W.findIn K (.ref (He.ga K x)) "__init__") (some (some (.ref (He.ma K (He.ga K x) "__init__")))) && (PySem.W.isFn K (.ref (He.ma K (He.ga K x) "__init__")) && PySem.W.keepIn K (.ref (He.ga K x))))
  | .prop x f => He.eqO (PySem.W.findIn K (.ref (He.ga K x)) f) (some (some (.ref (He.ma K (He.ga K x) f)))) && (He.eqO (PySem.W.specialIn K (.ref (He.ma K (He.ga K x) f)) "__get__") (some (some (.builtin "property.__get__"))) &&
    (decide (PySem.W.takesIn K (.ref (He.ma K (He.ga K x) f)) = some true) && (match PySem.W.recIn K (He.ma K (He.ga K x) f) "property" with
      | some (.ref _ :: _) => true
      | _ => false)))
  | .ins x => clsB K (He.ga K x) && (He.eqO (PySem.W.findIn K (.ref (He.ga K x)) "__class__") (some (some (.builtin "object.__class__"))) && (He.eqO (PySem.W.specialIn K (.builtin "object.__class__") "__get__") (some (some (.builtin "getset_descriptor.__get__"))) &&
    (decide (PySem.W.takesIn K (.builtin "object.__class__") = some true) && decide (PySem.W.mroIn K (He.ga K x) (.type "object") = some true))))
  | .notb x t => decide (PySem.W.kitOne K (.ref (He.ga K x)) (.type t.name) = some false)
  | .nott x => tys.all fun t => decide (PySem.W.kitOne K (.type t.name) (.ref (He.ga K x)) = some false)
  | .isc x y b => decide (PySem.W.kitOne K (.ref (He.ga K x)) (.ref (He.ga K y)) = some b)
  | .fnd x f => He.eqO (PySem.W.findIn K (.ref (He.ga K x)) f) (some (some (.ref (He.ma K (He.ga K x) f)))) && PySem.W.isFn K (.ref (He.ma K (He.ga K x) f))
section
variable {K : PySem.W.Frag} {h : Heap} {mg : Str → Option Value} {c : RC}
theorem Ft.free_ok (X : K.In h) (G : h.Ns mainGlobals mg) {x : Str} (k : (Ft.free x).ok K = true) : mg x = none := PySem.W.mg_none_of X G (He.eqO_ok k)
theorem Ft.glo_ok (X : K.In h) (G : h.Ns mainGlobals mg) {x : Str} (k : (Ft.glo x).ok K = true) : mg x = some (.ref (He.ga K x)) := PySem.W.mg_of X G (He.eqO_ok k)
theorem Ft.con_ok (X : c.K.In h) (G : h.Ns mainGlobals mg) {x : Str} {d : D} (k : (Ft.con x d).ok c.K = true) : GRep c mg x d := by
  have k : (match PySem.W.nsIn c.K mainGlobals x with
    | some (some u) => relD c.K d u
    | _ => false) = true := k
  split at k
  · rename_i u q
    obtain ⟨v, r, g⟩ := relD_ok d u k
    exact ⟨u, v, PySem.W.mg_of X G q, r, g⟩
  · cases k
theorem Ft.keys_ok (X : c.K.In h) (G : h.Ns mainGlobals mg) {w : World} {x : Str} {kvs : List (Str × D)} (k1 : (Ft.glo x).ok c.K = true) (k : (Ft.keys x kvs).ok c.K = true) (t : ∃ es n, KDict c.K w (He.ga c.K x) es n) : GDict c c.K w mg x kvs := by
  obtain ⟨es, n, t⟩ := t
  refine ⟨He.ga c.K x, es, n, Ft.glo_ok X G k1, t, fun p hp => ?_⟩
  have q := List.all_eq_true.mp k p hp
  split at q
  · rename_i u e
    obtain ⟨v, r, g⟩ := relD_ok p.2 u q
    exact ⟨u, v, e, r, g⟩
  · cases q
theorem clsB_ok {C : Addr} (k : clsB K C = true) : Cls K C := by
  obtain ⟨c1, k⟩ := He.ba k
  obtain ⟨c2, k⟩ := He.ba k
  obtain ⟨c3, c4⟩ := He.ba k
  exact ⟨c1, c2, c3, He.eqO_ok c4⟩
theorem Ft.cls_ok {x : Str} (k : (Ft.cls x).ok K = true) : Cls K (He.ga K x) := clsB_ok k
theorem Ft.noat_ok {x f : Str} (k : (Ft.noat x f).ok K = true) : NoAttr K (He.ga K x) f := He.eqO_ok k
theorem Ft.mk_ok {x : Str} (k : (Ft.mk x).ok K = true) : Mk K (He.ga K x) (Loc.ad K (.m x "__init__")) := by
  obtain ⟨c1, k⟩ := He.ba k
  obtain ⟨c2, k⟩ := He.ba k
  obtain ⟨c3, c4⟩ := He.ba k
  exact ⟨c1, He.eqO_ok c2, c3, c4⟩
theorem Ft.fnd_ok {x f : Str} (k : (Ft.fnd x f).ok K = true) : PySem.W.findIn K (.ref (He.ga K x)) f = some (some (.ref (Loc.ad K (.m x f)))) ∧ PySem.W.isFn K (.ref (Loc.ad K (.m x f))) = true := by
  obtain ⟨c1, k⟩ := He.ba k
  exact ⟨He.eqO_ok c1, k⟩
theorem Ft.prop_ok {x f : Str} (k : (Ft.prop x f).ok K = true) : ∃ p, PropOf K (He.ga K x) f p (Loc.ad K (.p x f)) := by
  obtain ⟨c1, k⟩ := He.ba k
  obtain ⟨c2, k⟩ := He.ba k
  obtain ⟨c3, c4⟩ := He.ba k
  refine ⟨_, He.eqO_ok c1, He.eqO_ok c2, of_decide_eq_true c3, ?_⟩
  show ∃ rest : List Value, PySem.W.recIn K (He.ma K (He.ga K x) f) "property" = some (Value.ref (prpOf K (He.ma K (He.ga K x) f)) :: rest)
  unfold prpOf
  split at c4
  · rename_i a l q
    rw [q]
    exact ⟨l, rfl⟩
  · cases c4
theorem Ft.ins_ok {k : Nat} (q : (Ft.ins x).ok c.K = true) (e : c.cls k = He.ga c.K x) : InsK c k := by
  obtain ⟨c1, q⟩ := He.ba q
  obtain ⟨c2, q⟩ := He.ba q
  obtain ⟨c3, q⟩ := He.ba q
  obtain ⟨c4, c5⟩ := He.ba q
  refine ⟨?_, ?_, He.eqO_ok c3, of_decide_eq_true c4, ?_⟩
  · rw [e]; exact clsB_ok c1
  · rw [e]; exact He.eqO_ok c2
  · rw [e]; exact of_decide_eq_true c5
theorem Ft.notb_ok {k : Nat} {x : Str} {t : Ty} (q : (Ft.ins x).ok c.K = true) (q2 : (Ft.notb x t).ok c.K = true) (e : c.cls k = He.ga c.K x) : NotB c t k := ⟨Ft.ins_ok q e, by rw [e]; exact of_decide_eq_true q2⟩
theorem tys_all (t : Ty) : t ∈ tys := by cases t <;> decide
theorem Ft.nott_ok {k : Nat} {x : Str} (q : (Ft.nott x).ok c.K = true) (e : c.cls k = He.ga c.K x) (t : Ty) : PySem.W.kitOne c.K (.type t.name) (.ref (c.cls k)) = some false := by
  rw [e]
  exact of_decide_eq_true (List.all_eq_true.mp q t (tys_all t))
theorem Ft.isc_ok {x y : Str} {b : Bool} (q : (Ft.isc x y b).ok K = true) : PySem.W.kitOne K (.ref (He.ga K x)) (.ref (He.ga K y)) = some b := of_decide_eq_true q
end
/-! ### the Hook -/
abbrev AlM : Type := (Bool × List He.FnW) × List (Option (List (Option (Str × Int))))
/-- fs: facts, ds: defs, ts: dicts with text keys and these keys -/
def obsM (fs : List Ft) (ds : List DefM) (ts : List (Str × List Str)) (K : PySem.W.Frag) : AlM := (((fs.all fun f => f.ok K) && ds.all fun d => d.ok K, ds.map fun d => fnM K (d.ad K)), ts.map fun t => He.dicW K (He.ga K t.1))
def valM (ds : List DefM) (ts : List (Str × List Str)) (w : World) : AlM := ((true, ds.map DefM.val), ts.map fun t => some (He.keysIn w.params t.2))
def SaysM (fs : List Ft) (ds : List DefM) (ts : List (Str × List Str)) (w : World) (K : PySem.W.Frag) : Prop := obsM fs ds ts K = valM ds ts w
/-- what an object names, as far as the facts want it -/
def refsM (o : Obj) : List Addr := match o.data with
  | .seq its _ => its.toList.flatMap He.refV
  | .dict es _ => es.toList.flatMap fun e => He.refV e.val
  | .func fd => He.refV fd.code
  | .cls cd => [cd.ns]
  | .fields vs => (match o.cls with
    | .type t => (match decide (t = "property") with
      | true => vs.toList.flatMap He.refV
      | false => [])
    | _ => [])
  | _ => []
def asM (g : Addr → Option Obj) : Nat → List Addr → List Addr
  | 0, fr => fr
  | n + 1, fr => fr ++ asM g n (fr.flatMap fun a => match g a with
    | some o => refsM o
    | none => [])
def obsMG (n : Nat) (fs : List Ft) (ds : List DefM) (ts : List (Str × List Str)) (g : Addr → Option Obj) : AlM := obsM fs ds ts (He.frG g (asM g n [mainGlobals]))
def hookM (n : Nat) (fs : List Ft) (ds : List DefM) (ts : List (Str × List Str)) : PySem.W.Hook where
  α := AlM
  obs := fun s => obsMG n fs ds ts s.heap.get?
  val := fun w => valM ds ts w
  says := fun w h => ∃ K : PySem.W.Frag, K.In h ∧ SaysM fs ds ts w K
  of := fun _ _ e => ⟨_, He.frG_in, e⟩
  keeps := fun _ _ _ ⟨K, hK, c⟩ k => ⟨K, PySem.W.Frag.In.keeps hK k, c⟩
theorem obsMG_eq {n : Nat} {fs : List Ft} {ds : List DefM} {ts : List (Str × List Str)} {g : Addr → Option Obj} {s : Shared} (h : ∀ a, g a = s.heap.get? a) : obsMG n fs ds ts g = (hookM n fs ds ts).obs s := by
  have e : g = s.heap.get? := funext h
  rw [e] <;> rfl
section
variable {fs : List Ft} {ds : List DefM} {ts : List (Str × List Str)} {w : World} {K : PySem.W.Frag}
theorem SaysM.fact (c : SaysM fs ds ts w K) (i : Nat) {f : Ft} (h : fs[i]? = some f := by rfl) : f.ok K = true := by
  have c1 := (He.ba (show ((fs.all fun f => f.ok K) && ds.all fun d => d.ok K) = true from congrArg (fun z : AlM => z.1.1) c)).1
  exact List.all_eq_true.mp c1 f (List.mem_of_getElem? h)
theorem SaysM.def_ (c : SaysM fs ds ts w K) (i : Nat) {d : DefM} (h : ds[i]? = some d := by rfl) : Fun K d.name d.qual d.st (d.ad K) (fdOf K (d.ad K)) := by
  have c2 := (He.ba (show ((fs.all fun f => f.ok K) && ds.all fun d => d.ok K) = true from congrArg (fun z : AlM => z.1.1) c)).2
  have e : ds.map (fun d => fnM K (d.ad K)) = ds.map DefM.val := congrArg (fun z : AlM => z.1.2) c
  have e2 : (ds.map fun d => fnM K (d.ad K))[i]? = (ds.map DefM.val)[i]? := by rw [e]
  rw [List.getElem?_map, List.getElem?_map, h] at e2
  exact DefM.fn (Option.some.inj e2) (List.all_eq_true.mp c2 d (List.mem_of_getElem? h))
theorem SaysM.tab (c : SaysM fs ds ts w K) (i : Nat) {t : Str × List Str} (h : ts[i]? = some t := by rfl) : ∃ es n, KDict K w (He.ga K t.1) es n := by
  have e : ts.map (fun t => He.dicW K (He.ga K t.1)) = ts.map fun t => some (He.keysIn w.params t.2) := congrArg (fun z : AlM => z.2) c
  have e2 : (ts.map fun t => He.dicW K (He.ga K t.1))[i]? = (ts.map fun t => some (He.keysIn w.params t.2))[i]? := by rw [e]
  rw [List.getElem?_map, List.getElem?_map, h] at e2
  exact He.dicW_ok (Option.some.inj e2)
end
/-- the context behind the top, no jar; cn: the classes' names, an: the attribute of a class of errors -/
def ctxM (K : PySem.W.Frag) (cn an : List Str) : RC := { K := K, J := 0, cls := fun k => He.ga K (cn.getD k ""), att := fun k => an.getD k "", S := 0, has := false }
/-- a law's def and its mirror: what walk_ofE wants -/
theorem law_sp {c : RC} {f : List D → M D} {n : Nat} (nj : c.has = false) (h : ∀ ns : List Int, ns.length ≤ n → ∃ j, f [.scr ns] [] = .ok (.bl true) j) {H : Hp} {a : Addr} {ns : List Int} (hl : ns.length ≤ n) (S : SqL c.K H a (ns.map V.int)) :
    spD c 1 f [.ref a] H (fun v _ => v = .bl true) fun _ _ _ => False := by
  obtain ⟨j, e⟩ := h ns hl
  have sc : ScrAt c [] H a (ns.map V.int) := by
    rcases S with S | S
    · rcases S with S | ⟨o, S⟩
      · exact .inl ⟨fun z => (nomatch z), _, S, fun H' e => .inl (.inl e)⟩
      · exact .inl ⟨fun z => (nomatch z), _, S, fun H' e => .inl (.inr ⟨o, e⟩)⟩
    · exact .inr fun H' => .inr S
  refine ⟨rfl, [], [], [.scr ns], fun x hx => ?_, fun a ha => (nomatch ha), fun hh => (by rw [nj] at hh; cases hh), ⟨_, _, rfl, ⟨a, rfl, sc⟩, rfl⟩, ?_⟩
  · rw [RC.Js_no nj] at hx; exact hx
  · rw [e]
    exact fun v H' _ _ rp => rp
theorem no_cx {P : Program} (w : World) (H : Hp) (s : Shared) (e : Value) (s' : Shared) (h : L2.CX P w [] H s (fun _ _ _ => False) e s') : False := by
  obtain ⟨_, _, _, _, _, _, _, _, _, _, _, _, h⟩ := h
  exact h
/-- a law: its end, where a def may let an exception out -/
theorem walk_ofM {l : PySem.W.OpenLaw} {n k : Nat} {q : Program} {loose : List Str} {XP : (Str → Option Value) → Heap → Prop} {YP : World → Heap → Prop} {d : DefRec} {x : Str}
    (hn : l.most = some n) (hn2 : n ≤ sizeLine) (hdf : d.params.defaults = []) (hr : Room k callerA)
    (F : ∀ (w : World) (mg : Str → Option Value) (fa : Addr) (h : Heap), YP w h → h.Ns mainGlobals mg → mg d.name = some (.ref fa) →
      ∃ (K : PySem.W.Frag) (fd : FuncData) (sp : Sp), K.In h ∧ (∀ (s : Shared) (u : Value), BindsTo s fd ⟨[u], []⟩ [(x, u)]) ∧
        (∀ (H : Hp) (a : Addr) (ns : List Int), ns.length ≤ n → Only H → SqL K H a (ns.map V.int) → sp [.ref a] H (fun v _ => v = .bl true) fun _ _ _ => False) ∧
        ∀ base : Heap, K.In base → base.Ns mainGlobals mg → FnOk l.prog w K mg base (L2.CX l.prog w) k fa fd [x] sp) :
    PySem.W.WalkO q loose XP YP l.row.toRowW d [] (fun f vs => PySem.call f vs) := by
  refine Att.attach_call hn hdf fun w s₀ s₁ mg mb fa o pm cd doc a vs ns G Y ho hd hcd hmg hobj hints hlen hg => ?_
  obtain ⟨K, fd, sp, KX, hb, hsp, hF⟩ := F w mg fa _ Y G.T.g hmg
  exact law_call KX G.T.g G.T.b G.T.builtins G.T.nolimit hg hobj hints (Nat.le_trans hlen hn2) hr hF hb (fun H hO hS => hsp H a ns hlen hO hS) fun H e s' => no_cx w H s₁ e s'
end Mir
set_option Elab.async false
set_option linter.all false
set_option maxRecDepth 100000
set_option maxHeartbeats 4000000
/-! Mir28: what texts with repr and keywords lean on; range of three, downwards; the end of such a law. -/
namespace Mir
open PySem L2 PySem.Spec PyProof.Rows
section
variable {X : Cx} {m : Md} {c : RC} {B O O' L : List Addr} {W : WX} {e a b : Expr} {me ma mb : Mir.Env → M D} {pos : Pos} {σ : L2.St} {H H' : Hp} {Q : VK} {ρ : Mir.Env} {j : List Int}
/-- a jar's def, called on a new list of ints, by what can be run from here -/
theorem me_callJR {f : Addr} {fd : FuncData} {ps : List Str} {fm : List D → M D} {x : Str} {p : Pos} (R : ∀ q, Runs X f fd ps (spD (c.wj q) 1 fm)) (nj : c.has = false) (hm : X.mg x = some (.ref f))
    (hk : PySem.W.keepIn X.K (.ref f) = true) (hb : Binds X.K fd ps []) (tk : Takes X W) (he : ME X .fresh c B W e me) (hg : Gl X x := by rfl) (hd : (x == ("__debug__" : Str)) = false := by decide)
    (hst : starEach [e] X.env = (false, eval e X.env) :: starEach [] X.env := by rfl) (hpl : ((backTo pos (starEach [] X.env)).any fun x => x.1) = false := by rfl) : ME X m c B W (.Call (.Name x p) [e] [] pos) (mCallJ fm me) := by
  have P : PE X (.Call (.Name x p) [e] [] pos) (fun σ H Q => rd .fresh c B W me σ H fun v H1 => ∃ q, spD (c.wj q) 1 fm [v] H1 Q (WE W σ)) := ⟨fun pins s σ H Q I h => wpAny_Call_Name_kw (ld_glob I hg hm (PySem.W.callWith_K (h₀ := X.base) I.ok.mod.kin hk
    (thn ((pa_cons he pa_nil hst).run pos pins s σ H (fun vs H1 => ∃ q, spD (c.wj q) 1 fm vs H1 Q (WE W σ)) I h) fun us s1 ⟨vs, H1, I1, r, q, sp⟩ => ⟨I1.kIn, by
      have b := hb s1 us I1.kIn (by rw [List.append_nil, ← r.length]; exact (R q).len _ _ _ _ sp)
      rw [List.append_nil] at b
      exact run_r (R q) b (passAt tk σ) I1 r sp⟩) hst hpl) hd)⟩
  exact me_mono P fun σ H Q ⟨O, ρ, j, rel, out⟩ => by
    refine ⟨O, ρ, j, rel, ?_⟩
    unfold mCallJ bnd at out
    cases q : me ρ j with
    | stk => rw [q] at out; exact out
    | exc k g j' => rw [q] at out; exact out
    | ok d j1 =>
      rw [q] at out
      intro v H1 e1 hj1 rp
      have rel1 := rel.ex e1 hj1
      dsimp only at out
      unfold dJarC at out
      cases d <;> first | exact out.elim | skip
      rename_i ds
      obtain ⟨a, vs, rfl, na, h0, t, r⟩ := rp
      dsimp only at out
      cases z : intsOf ds with
      | none => rw [z] at out; exact out.elim
      | some ns =>
        rw [z] at out
        have hds := intsOf_eq z
        subst hds
        have hvs := Reps.ints_eq r
        subst hvs
        refine ⟨a, rfl, a :: (O ++ B), ns, [.jar], fun x hx => ?_, fun x hx => ?_, fun _ => t, ⟨_, _, rfl, ⟨rfl, rfl⟩, rfl⟩, ?_⟩
        · obtain ⟨_, hx⟩ := RC.mem_Js.mp hx
          rw [hx]
          exact List.mem_cons_self
        · rcases List.mem_cons.mp hx with hx | hx
          · rw [hx, t]; exact fun w => nomatch w
          · exact rel1.dom x hx
        · dsimp only at out
          cases z2 : fm [.jar] ns with
          | stk => rw [z2] at out; exact out.elim
          | exc k g j' => rw [z2] at out; exact out.elim
          | ok r' j' =>
            rw [z2] at out
            dsimp only at out
            by_cases hf : isFlat r' = true
            · rw [if_pos hf] at out
              intro w H2 e2 hj2 rw2
              have rp' : Rep c (O ++ B) H2 r' w := by cases r' <;> first | exact rw2 | cases hf
              have hmu : isMut r' = false := by cases r' <;> first | rfl | cases hf
              refine out w H2 (fun x o nx hx => ?_) (fun hh => by rw [nj] at hh; cases hh) (RepM.of rel.jL rp' hmu)
              refine e2 x o (fun hz => ?_) (e1 x o nx hx)
              obtain ⟨_, hz⟩ := RC.mem_Js.mp hz
              have hz : x = a := hz
              rw [hz, h0] at hx
              cases hx
            · rw [if_neg hf] at out; exact out.elim
/-- a, b, c = e, f, g: the three names local, on one line -/
theorem ms_par3 {i k l : Nat} {x y z : Str} {d : Expr} {px py pz pt : Pos} {kt k2 : Nat} {pt2 : Pos} {fl : List Bool} {ml : Mir.Env → M (List D)} {W : WX} (hc : X.calm = true) (hN : X.N.Nodup) (ha : MF X c W [a, b, d] [i, k, l] fl ml) (hi : X.N[i]? = some x := by rfl) (hk : X.N[k]? = some y := by rfl) (hl : X.N[l]? = some z := by rfl)
    (hik : i ≠ k := by decide) (hil : i ≠ l := by decide) (hkl : k ≠ l := by decide)
    (hx : X.env.scope.names.lookup x = some .local := by rfl) (hy : X.env.scope.names.lookup y = some .local := by rfl) (hz : X.env.scope.names.lookup z = some .local := by rfl)
    (hsw : swappedStores [.Tuple [.Name x px, .Name y py, .Name z pz] kt pt] (.Tuple [a, b, d] k2 pt2) X.env = pure (some [x, y, z]) := by rfl)
    (hs : swapsWithSole [.Tuple [.Name x px, .Name y py, .Name z pz] kt pt] (.Tuple [a, b, d] k2 pt2) pos.line X.env = pure false := by rfl) :
    MS X c B W (.Assign [.Tuple [.Name x px, .Name y py, .Name z pz] kt pt] (.Tuple [a, b, d] k2 pt2) pos) (mPar [i, k, l] fl ml) :=
  ms_mono (ps_par3 hc hN hi hk hl hik hil hkl hx hy hz (ha B) hsw hs) fun D σ H ⟨O, ρ, j, rel, out⟩ => rdF_bndS rel out fun ρ' j' vs H1 O' g hl r out1 => by
    match vs, hl, r with
    | [u, v, w], _, r =>
      refine ⟨u, v, w, rfl, out1 O' _ H1 g ?_⟩
      have e : setAllV [i, k, l] [u, v, w] σ = ((σ.set l (some w)).set k (some v)).set i (some u) := rfl
      rw [e] at r
      first
        | exact r
        | (rw [set_swap hik, set_swap hil, set_swap hkl] at r; exact r)
        | (rw [set_swap hkl, set_swap hil] at r; exact r)
        | (rw [set_swap hik] at r; exact r)
/-- how a def binds keywords -/
theorem kwT_of {K : PySem.W.Frag} {x qual : Str} {st : Stmt} {f : Addr} {fd : FuncData} {ps ks : List Str} {nu : Nat} {π : List Nat} (F : Fun K x qual st f fd)
    (h : ∀ (kV doc pm : Value) (an : Option Addr) (cdv ct : Value) (us ws : List Value), us.length = nu → ws.length = ks.length → bindArgs (PySem.W.fnOf x qual (defArgs st) (defBody st) (defScope st) .none kV doc pm an cdv ct) ⟨us, ks.zip ws⟩ = pure (ps.zip (permL .none π (us ++ ws)))) : KwT K fd ps ks nu π := by
  obtain ⟨oc, od, kV, doc, pm, an, cdv, ct, osl, rfl, lk, hcd⟩ := F.ex
  exact ⟨fun s us ws _ h1 h2 => .of_eq (h kV doc pm an cdv ct us ws h1 h2)⟩
/-! ### range(i, j, -1) -/
def downD (i : Int) (n : Nat) : List D := (List.range n).map fun k => .int (i + (k : Nat) * (-1))
def dRng3 : D → D → D → M (List D)
  | .int i, .int k, .int s => need (near i ∧ near k ∧ s = -1) (ret (downD i (i - k).toNat))
  | _, _, _ => stuck
def mRng3 (ma mb mc : Mir.Env → M D) : Mir.Env → M (List D) := fun ρ => bnd (ma ρ) fun x => bnd (mb ρ) fun y => bnd (mc ρ) fun z => dRng3 x y z
theorem iter_down {lo : Int} {n : Nat} : IterOk c B O (Itc lo (-1) n) (downD lo n) H := fun i O2 H2 g _ _ => by
  have hl : (downD lo n).length = n := by simp [downD]
  refine ⟨fun hi => by rw [hl] at hi; exact hi, fun d x H3 hd hy => ?_, fun hi => by rw [hl] at hi; rw [hi]; exact Nat.le_refl _⟩
  obtain ⟨e, ex⟩ := hy
  subst e ex
  unfold downD at hd
  rw [List.getElem?_map] at hd
  by_cases q : i < n
  · rw [List.getElem?_range q] at hd
    cases hd
    exact ⟨ExS.refl, rfl, fun _ _ => rfl⟩
  · rw [List.getElem?_eq_none (by simpa using q)] at hd
    cases hd
theorem mi_range3 {x : Expr} {mx : Mir.Env → M D} {tg : Expr} {p : Pos} (hm : X.mg "range" = none) (ha : ME X .look c B W a ma) (hb : ME X .look c B W b mb) (hx : ME X .look c B W x mx) (hg : Gl X "range" := by rfl)
    (h1 : starEach [a, b, x] X.env = (false, eval a X.env) :: starEach [b, x] X.env := by rfl) (h2 : starEach [b, x] X.env = (false, eval b X.env) :: starEach [x] X.env := by rfl) (h3 : starEach [x] X.env = (false, eval x X.env) :: starEach [] X.env := by rfl)
    (hpl : (backTo pos (starEach [b, x] X.env)).any (·.1) = false := by rfl) :
    MI X c B W tg (.Call (.Name "range" p) [a, b, x] [] pos) (mRng3 ma mb mx) :=
  pi_mono (pi_range3 hg hm (pa_cons ha (pa_cons hb (pa_cons hx pa_nil h3) h2) h1) h1 hpl) fun σ H R ⟨O, ρ, j, rel, out⟩ => rd_bndI (m' := .look) rel out fun d j1 v H1 rel1 e1 rp out1 => rd_bndI (m' := .look) rel1 out1 fun d2 j2 v2 H2 rel2 e2 rp2 out2 => rd_bndI (m' := .look) rel2 out2 fun d3 j3 v3 H3 rel3 e3 rp3 out3 => by
    unfold dRng3 at out3
    split at out3 <;> first | exact out3.elim | skip
    cases rp.int; cases rp2.int; cases rp3.int
    obtain ⟨⟨⟨q1, q2⟩, ⟨q3, q4⟩, q5⟩, o⟩ := need_outI out3
    subst q5
    exact ⟨_, _, _, _, rfl, RgC.neg q1 q2 q3 q4, o _ H3 ExS.refl rel3.jar iter_down⟩
/-- {} -/
def mDict0 : Mir.Env → M D := fun _ => ret (.dK [] [])
theorem me_dict0 : ME X m c B W (.Dict [] [] pos) mDict0 := me_mono pe_dnewK fun σ H Q ⟨O, ρ, j, rel, out⟩ p hp =>
  out (.ref p) _ (ExS.new hp) (rel.jar.new hp) (RepM.ofF rel.jL ⟨p, [], rfl, rel.fresh hp, hp, upd_same, rfl, rfl⟩)
end
/-! ### the end of a law whose defs are run with no guard around -/
theorem call_lawG {P : Program} {w : World} {K : PySem.W.Frag} {gl bl : Str → Option Value} {k : Nat} {f l : Addr} {fd : FuncData} {x : Str} {sp : Sp} {s : Shared} {us : List Value} {ns : List Int}
    (inK : K.In s.heap) (g1 : s.heap.Ns mainGlobals gl) (g2 : s.heap.Ns builtinsNs bl) (g3 : ∀ x : Str, x ≠ "__name__" → bl x = bootBuiltins x) (g4 : s.heap.NoLimit) (g5 : s.gens = #[])
    (hl : s.heap.get? l = some { cls := .type "list", data := .seq us.toArray }) (hu : IntsAre us ns) (hn : ns.length ≤ sizeLine) (room : RoomG k callerA)
    (F : ∀ base : Heap, K.In base → base.Ns mainGlobals gl → FnG P w K gl base (L2.CX P w) k f fd [x] sp) (bind : ∀ (s : Shared) (u : Value), BindsTo s fd ⟨[u], []⟩ [(x, u)])
    (q : ∀ H : Hp, Only H → SqL K H l (ns.map V.int) → sp [.ref l] H (fun v _ => v = .bl true) fun _ _ _ => False) :
    codeAny (model P w) callerA (.call (.ref f) ⟨[.ref l], []⟩) (fun r s2 => r = .ok (.ret (.bool true)) ∧ OldK s.heap s2.heap ∧ s2.os = s.os ∧ AllBare s2.gens) s := by
  have whole : ∀ H : Hp, Only H → SqL K H l (ns.map V.int) → HOk P w H s.heap → (∀ b, H b ≠ none → b = l) → (H l ≠ none → K.lookup l = none) →
      codeAny (model P w) callerA (.call (.ref f) ⟨[.ref l], []⟩) (fun r s2 => r = .ok (.ret (.bool true)) ∧ OldK s.heap s2.heap ∧ s2.os = s.os ∧ AllBare s2.gens) s := fun H only seq ok one apart => by
    have free : ∀ {b : Addr} {o : Obj}, s.heap.get? b = some o → (∀ ns, o.data ≠ .seq us.toArray ns) → H b = none := fun {b o} e d => by
      cases z : H b with
      | none => rfl
      | some u =>
        have e2 := one b (by rw [z]; exact fun y => nomatch y)
        rw [e2, hl] at e
        cases e
        exact absurd rfl (d _)
    have dict : ∀ {b : Addr} {m : Str → Option Value}, s.heap.Ns b m → (hidT s.heap H).Ns b m := fun {b m} ⟨o, es, ep, e, d, r⟩ => ⟨o, es, ep, hidT_get e (free e fun _ z => by rw [d] at z; cases z), d, r⟩
    have kin : K.In (hidT s.heap H) := fun b o e => hidT_get (inK b o e) (by
      cases z : H b with
      | none => rfl
      | some u =>
        have e2 := one b (by rw [z]; exact fun y => nomatch y)
        subst e2
        rw [apart (by rw [z]; exact fun y => nomatch y)] at e
        cases e)
    obtain ⟨ml, l1, l2⟩ := g4
    have env : Env0 P w K gl (hidT s.heap H) callerA [] s H := ⟨rfl, ⟨kin, dict g1, ⟨bl, dict g2, g3⟩, ⟨ml, dict l1, l2⟩⟩, fun b o e => of_hidT e, Nat.le_of_eq (hidT_size _ _), trivial, fun b hb => (nomatch hb), ok, .of_eq g5⟩
    refine codeAny_mono ((F _ kin (dict g1)).run callerA [] s H ⟨[.ref l], []⟩ [.ref l] [.ref l] _ _ room env (bind s (.ref l)) (.cons rfl .nil) (q H only seq)) fun r s2 end_ => ?_
    match r, end_ with
    | .error e, end_ => exact (no_cx w H s e s2 end_).elim
    | .ok (.ret u), ⟨v, H2, os, bare, un, ok2, rv, e⟩ =>
      have e : v = .bl true := e
      subst e
      obtain rfl : u = Value.bool true := rv
      refine ⟨rfl, OldK.of_keep fun b o eb => ?_, os, bare⟩
      rcases z : H b with _ | u
      · exact un.keep b o eb z (fun y => (nomatch y)) (fun y => (nomatch y))
      · rcases only b with y | ⟨ob, xs, y⟩
        · rw [z] at y; cases y
        · obtain ⟨k1, _⟩ := ok b _ y
          obtain ⟨k2, _⟩ := ok2 b _ (un.frzs b ob _ y)
          rw [eb] at k1
          cases k1
          exact k2
    | .ok .next, end_ => exact False.elim end_
    | .ok .brk, end_ => exact False.elim end_
    | .ok .cont, end_ => exact False.elim end_
  cases inside : K.lookup l with
  | none =>
    refine whole (fun b => if b = l then some (.frz { cls := .type "list", data := .seq us.toArray } (.lst (ns.map V.int))) else none) (fun b => ?_) (.inl (.inr ⟨{ cls := .type "list", data := .seq us.toArray }, if_pos rfl⟩)) (fun b u z => ?_) (fun b z => ?_) fun _ => inside
    · by_cases e : b = l
      · exact .inr ⟨_, _, if_pos e⟩
      · exact .inl (if_neg e)
    · by_cases e : b = l
      · have z := (if_pos e).symm.trans z
        cases z
        subst e
        exact ⟨hl, by rw [List.length_map]; exact hn, us, _, vals_ints hu, hl⟩
      · have z := (if_neg e).symm.trans z
        cases z
    · exact Classical.byContradiction fun e => z (if_neg e)
  | some o =>
    have e := inK l o inside
    rw [hl] at e
    cases e
    refine whole (fun _ => none) (fun _ => .inl rfl) (.inr ⟨_, us.toArray, _, inside, rfl, rfl, rfl, by rw [List.size_toArray, hu.length]; exact hn, by simpa using vals_ints hu⟩) (fun b u z => (nomatch z)) (fun b z => absurd rfl z) fun z => absurd rfl z
theorem walk_ofG {l : PySem.W.OpenLaw} {n k : Nat} {q : Program} {loose : List Str} {XP : (Str → Option Value) → Heap → Prop} {YP : World → Heap → Prop} {d : DefRec} {x : Str}
    (hn : l.most = some n) (hn2 : n ≤ sizeLine) (hdf : d.params.defaults = []) (hr : RoomG k callerA)
    (F : ∀ (w : World) (mg : Str → Option Value) (fa : Addr) (h : Heap), YP w h → h.Ns mainGlobals mg → mg d.name = some (.ref fa) →
      ∃ (K : PySem.W.Frag) (fd : FuncData) (sp : Sp), K.In h ∧ (∀ (s : Shared) (u : Value), BindsTo s fd ⟨[u], []⟩ [(x, u)]) ∧
        (∀ (H : Hp) (a : Addr) (ns : List Int), ns.length ≤ n → Only H → SqL K H a (ns.map V.int) → sp [.ref a] H (fun v _ => v = .bl true) fun _ _ _ => False) ∧
        ∀ base : Heap, K.In base → base.Ns mainGlobals mg → FnG l.prog w K mg base (L2.CX l.prog w) k fa fd [x] sp) :
    PySem.W.WalkO q loose XP YP l.row.toRowW d [] (fun f vs => PySem.call f vs) := by
  refine Att.attach_call hn hdf fun w s₀ s₁ mg mb fa o pm cd doc a vs ns G Y ho hd hcd hmg hobj hints hlen hg => ?_
  obtain ⟨K, fd, sp, KX, hb, hsp, hF⟩ := F w mg fa _ Y G.T.g hmg
  exact call_lawG KX G.T.g G.T.b G.T.builtins G.T.nolimit hg hobj hints (Nat.le_trans hlen hn2) hr hF hb (fun H hO hS => hsp H a ns hlen hO hS)
end Mir
set_option Elab.async false
set_option linter.all false
set_option maxRecDepth 100000
set_option maxHeartbeats 4000000
/-! Mir29: is True, is False. -/
namespace Mir
open PySem L2 PySem.Spec PyProof.Rows
def rIsBl : R2 := fun x y H Q => ∃ a b, x = .bl a ∧ y = .bl b ∧ Q (.bl (a == b)) H
def rNotBl : R2 := fun x y H Q => ∃ a b, x = .bl a ∧ y = .bl b ∧ Q (.bl (a != b)) H
theorem op_isBl {X : Cx} : OpR X (compareOp .Is) rIsBl := by
  intro pins s σ H x y v u Q I rx ry h
  obtain ⟨a, b, rfl, rfl, q⟩ := h
  cases rx; cases ry
  exact is_bool (fin_bl I q rfl)
theorem op_notBl {X : Cx} : OpR X (compareOp .IsNot) rNotBl := by
  intro pins s σ H x y v u Q I rx ry h
  obtain ⟨a, b, rfl, rfl, q⟩ := h
  cases rx; cases ry
  exact isnot_bool (fin_bl I q rfl)
def dIsBl : D → D → M D := fun x y => match x, y with
  | .bl a, .bl b => ret (.bl (a == b))
  | _, _ => stuck
def dNotBl : D → D → M D := fun x y => match x, y with
  | .bl a, .bl b => ret (.bl (a != b))
  | _, _ => stuck
theorem ok_isBl {c : RC} {m : Md} : Ok2 m c rIsBl .look .look dIsBl := by
  intro B O W ρ j σ H Q x y v w rel ⟨_, rx⟩ ⟨_, ry⟩ out
  cases x <;> cases y <;> first | exact out.elim | skip
  rename_i a b
  cases (show v = .bl a from rx); cases (show w = .bl b from ry)
  exact ⟨a, b, rfl, rfl, out.val rel rfl⟩
theorem ok_notBl {c : RC} {m : Md} : Ok2 m c rNotBl .look .look dNotBl := by
  intro B O W ρ j σ H Q x y v w rel ⟨_, rx⟩ ⟨_, ry⟩ out
  cases x <;> cases y <;> first | exact out.elim | skip
  rename_i a b
  cases (show v = .bl a from rx); cases (show w = .bl b from ry)
  exact ⟨a, b, rfl, rfl, out.val rel rfl⟩
/-! ### max and min of three -/
theorem RepsB.three {c : RC} {L : List Addr} {H : Hp} {d d2 d3 : D} {vs : List V} (h : RepsB c L H [d, d2, d3] vs) : ∃ v w u, vs = [v, w, u] ∧ RepB c L H d v ∧ RepB c L H d2 w ∧ RepB c L H d3 u := by
  obtain ⟨v, r, rfl, h1, h2⟩ := h
  obtain ⟨w, u, rfl, r2, r3⟩ := RepsB.two h2
  exact ⟨v, w, u, rfl, h1, r2, r3⟩
def max2 (a b : Int) : Int := if a < b then b else a
def min2 (a b : Int) : Int := if b < a then b else a
def dMax3 : List D → M D
  | [.int i, .int k, .int l] => ret (.int (max2 (max2 i k) l))
  | _ => stuck
def dMin3 : List D → M D
  | [.int i, .int k, .int l] => ret (.int (min2 (min2 i k) l))
  | _ => stuck
theorem nu_max2 (i k : Int) : nuMax2 (.int i) (.int k) = some (.int (max2 i k)) := by
  show some (if decide (i < k) = true then V.int k else V.int i) = _
  unfold max2
  by_cases h : i < k
  · rw [if_pos h, if_pos (decide_eq_true h)]
  · rw [if_neg h, if_neg (by simpa using h)]
theorem nu_min2 (i k : Int) : nuMin2 (.int i) (.int k) = some (.int (min2 i k)) := by
  show some (if decide (k < i) = true then V.int k else V.int i) = _
  unfold min2
  by_cases h : k < i
  · rw [if_pos h, if_pos (decide_eq_true h)]
  · rw [if_neg h, if_neg (by simpa using h)]
theorem cr_max3 {X : Cx} (hc : X.calm = true) : CallR X (.builtin "max") (rNuC3 nuMax3) := call_max3Nu hc
theorem cr_min3 {X : Cx} (hc : X.calm = true) : CallR X (.builtin "min") (rNuC3 nuMin3) := call_min3Nu hc
theorem ok_max3 {c : RC} {m : Md} : OkC m c (rNuC3 nuMax3) dMax3 := by
  intro B O W ρ j σ H Q ds vs rel rp out
  unfold dMax3 at out
  split at out <;> first | exact out.elim | skip
  obtain ⟨v, w, u, rfl, r, r2, r3⟩ := rp.three
  cases (show v = .int _ from r)
  cases (show w = .int _ from r2)
  cases (show u = .int _ from r3)
  refine ⟨_, _, _, _, rfl, ?_, out.val rel rfl⟩
  unfold nuMax3
  rw [nu_max2]
  show nuMax2 _ _ = _
  rw [nu_max2]
theorem ok_min3 {c : RC} {m : Md} : OkC m c (rNuC3 nuMin3) dMin3 := by
  intro B O W ρ j σ H Q ds vs rel rp out
  unfold dMin3 at out
  split at out <;> first | exact out.elim | skip
  obtain ⟨v, w, u, rfl, r, r2, r3⟩ := rp.three
  cases (show v = .int _ from r)
  cases (show w = .int _ from r2)
  cases (show u = .int _ from r3)
  refine ⟨_, _, _, _, rfl, ?_, out.val rel rfl⟩
  unfold nuMin3
  rw [nu_min2]
  show nuMin2 _ _ = _
  rw [nu_min2]
end Mir
set_option Elab.async false
set_option linter.all false
set_option maxRecDepth 100000
set_option maxHeartbeats 4000000
/-! Mir30: // and divmod of great numbers; a tuple no times; == by an own __eq__. -/
namespace Mir
open PySem L2 PySem.Spec PyProof.Rows
variable {X : Cx} {m : Md} {c : RC} {B O O' L : List Addr} {W : WX} {e a b : Expr} {me ma mb : Env → M D} {pos : Pos} {σ : L2.St} {H H' : Hp} {Q : VK} {ρ : Env} {j : List Int}
/-! ### great numbers -/
def dFdivW : D → D → M D := fun x y => match x, y with
  | .int a, .int b => need (0 < b ∧ b.natAbs.log2 < 9000) (ret (.int (a / b)))
  | _, _ => stuck
theorem me_fdivW (ha : ME X .look c B W a ma) (hb : ME X .look c B W b mb) : ME X m c B W (.BinOp a .FloorDiv b pos) (mBin dFdivW ma mb) := me_op op_fdivW (ok_rI (C := fun _ b => 0 < b ∧ b.natAbs.log2 < 9000)) ha hb
theorem call_divmodFW : CallR X (.builtin "divmod") (fun xs H Q => ∃ i j, xs = [.int i, .int j] ∧ CDivP i j ∧ NewT H [.int (i / j), .int (i % j)] Q) := by
  intro pins s σ H xs us Q I r h
  obtain ⟨i, j, rfl, ⟨h1, h2⟩, q⟩ := h
  obtain ⟨u, w', rfl, ⟨t, rfl⟩, ⟨t', rfl⟩⟩ := vals2 r
  refine divmod_int (by omega) ?_ (.inl h2)
  rw [Int.fdiv_eq_ediv_of_nonneg i (by omega), Int.fmod_eq_emod_of_nonneg i (by omega)]
  exact laidT (xs := [.int (i / j), .int (i % j)]) (its := [.int (i / j) s.toks, .int (i % j) (s.toks + 1)]) (I.kept (t' := s.toks) fun b o e => e) (by simp only [List.length_cons, List.length_nil]; rw [sizeLine_eq]; decide) (.cons ⟨_, rfl⟩ (.cons ⟨_, rfl⟩ .nil)) q
def dDivmodW : List D → M D
  | [.int i, .int k] => need (0 < k ∧ k.natAbs.log2 < 9000) (ret (.tup [.int (i / k), .int (i % k)]))
  | _ => stuck
theorem ok_divmodW : OkC m c (fun xs H Q => ∃ i j, xs = [.int i, .int j] ∧ CDivP i j ∧ NewT H [.int (i / j), .int (i % j)] Q) dDivmodW := by
  intro B O W ρ j σ H Q ds vs rel rp out
  unfold dDivmodW at out
  split at out <;> first | exact out.elim | skip
  obtain ⟨v, w, rfl, r, r2⟩ := rp.two
  cases (show v = .int _ from r)
  cases (show w = .int _ from r2)
  obtain ⟨⟨h1, h3⟩, h2⟩ := need_out (r := .stk) out
  exact ⟨_, _, rfl, ⟨h1, PyProof.noPylong_of_log2 h3⟩, Out.newT rel h2 (Reps.ofInts [_, _])⟩
/-! ### a tuple no times -/
theorem tuple_mul0 (l : Addr) (items : Array Value) (n : Nat) (dd : Option Addr) (sl : Array (Option Value)) (u : Tok) (hne : items.isEmpty = false) :
    Meets (Builtin.«tuple.__mul__» ⟨[.ref l, .int 0 u], []⟩) (fun _ R s => s.heap.get? l = some { cls := .type "tuple", dict := dd, data := .seq items n, slots := sl } ∧
      R (.ok (.ret (Value.ref s.heap.objs.size))) { s with heap := s.heap.push { cls := Value.type "tuple", data := Data.seq #[] }, toks := s.toks }) :=
  .of_wp fun prog w A R s h => by
    obtain ⟨hp, g, d, tk, os⟩ := s
    obtain ⟨hl, h⟩ := h
    have f1 := AutoSeq1.idx_int
    have c1 : (items.isEmpty || (0 : Int) == 1) = false := by rw [hne]; rfl
    have c2 : (decide ((0 : Int) ≤ 0) || items.isEmpty) = true := by simp
    wp_walk using wpAny_loadPart' hl
    repeat (first
      | (refine wpAny_ite_false (decide_eq_false (by decide)) ?_; wp_walk using wpAny_loadPart' hl)
      | (refine wpAny_ite_false (decide_eq_false (by rw [c1]; exact Bool.false_ne_true)) ?_; wp_walk using wpAny_loadPart' hl)
      | (refine wpAny_ite_true (decide_eq_true c2) ?_; wp_walk using wpAny_loadPart' hl))
    exact ⟨_, rfl, h⟩
def rRepZ (K : PySem.W.Frag) : R2 := fun x y H Q => ∃ l xs, x = .ref l ∧ y = .int 0 ∧ SqT K H l xs ∧ xs ≠ [] ∧ NewT H [] Q
theorem op_repZ : OpR X (binaryOp .Mult) (rRepZ X.K) := by
  intro pins s σ H x y v u Q I rx ry h
  obtain ⟨l, xs, rfl, rfl, hT, hne, q⟩ := h
  cases rx
  obtain ⟨t, rfl⟩ := ry
  obtain ⟨its, r, ⟨⟨cls, dd, data, sl⟩, ho, hc, n, hd⟩, hs⟩ := I.tuple hT
  simp only at hc hd
  subst hc hd
  have hle : its.length = xs.length := r.length.symm
  have hn : its ≠ [] := fun e => hne (by
    rw [e] at hle
    exact List.eq_nil_of_length_eq_zero hle.symm)
  have hi : its.toArray.isEmpty = false := by
    cases its with
    | nil => exact absurd rfl hn
    | cons a b => rfl
  refine wpAny_binaryOp_repeat_ref (T := "tuple") (U := "int") (by decide) ⟨_, ho, rfl⟩ (fun s' => typeIs_int s' 0 t) noFill_tuple_mul F.fills_int_mul F.slot_int_rmul repeat_tuple F.slot_int_index.lookup
    (call_meets F.slot_int_rmul (typeIs_int s 0 t) F.entry_int_rmul (F.args_int_rmul_2 _ _) (int_rmul_tuple 0 t l its.toArray n dd sl)
      ⟨ho, rfl, ⟨_, ho, rfl⟩, call_meets F.slot_tuple_mul ⟨_, ho, rfl⟩ F.entry_tuple_mul (F.args_tuple_mul_2 _ _) (tuple_mul0 l its.toArray n dd sl t hi) ⟨ho, ?_⟩⟩)
  exact laidT (s := s) (xs := []) (its := []) (tk := s.toks) (I.kept (t' := s.toks) fun b o e => e) (by rw [sizeLine_eq]; decide) .nil q
/-- * with a tuple, no times too -/
def dMulT : D → D → M D := fun x y => match x, y with
  | .tup a, .int k => if k = 0 then need (neNil a = true) (ret (.tup [])) else dMul (.tup a) (.int k)
  | x, y => dMul x y
theorem op_mulT : OpR X (binaryOp .Mult) (fun x y H Q => rRepZ X.K x y H Q ∨ rMulA X.K x y H Q) := op_repZ.or op_mulA
theorem ok_mulT (hK : X.K = c.K) : Ok2 m c (fun x y H Q => rRepZ X.K x y H Q ∨ rMulA X.K x y H Q) .look .look dMulT := by
  intro B O W ρ j σ H Q x y v w rel rx ry out
  have old : Out m c (O ++ B) W σ H Q (dMul x y j) → rRepZ X.K v w H Q ∨ rMulA X.K v w H Q := fun o => .inr (ok_mul hK B O W ρ j σ H Q x y v w rel rx ry o)
  unfold dMulT at out
  split at out
  · rename_i a k
    by_cases h : k = 0
    · rw [if_pos h] at out
      subst h
      obtain ⟨hn, o⟩ := need_out (r := .stk) out
      obtain ⟨_, rx⟩ := rx
      obtain ⟨_, ry⟩ := ry
      obtain ⟨l, xs, rfl, t, r⟩ := (show RepB c (O ++ B) H (.tup a) v from rx).tup
      cases (show w = .int 0 from ry)
      exact .inl ⟨l, xs, rfl, rfl, hK ▸ t, nil_of_reps r (neNil_iff hn), Out.newT rel o (ds := []) rfl⟩
    · rw [if_neg h] at out
      exact old out
  · exact old out
theorem me_mulT (hK : X.K = c.K) (ha : ME X .look c B W a ma) (hb : ME X .look c B W b mb) : ME X m c B W (.BinOp a .Mult b pos) (mBin dMulT ma mb) := me_op op_mulT (ok_mulT hK) ha hb
/-! ### == by an own __eq__ -/
structure EqT (X : Cx) (c : RC) (k : Nat) (fm : List D → M D) : Prop where
  ex : ∃ (n : Nat) (g : Addr) (fd : FuncData) (ps : List Str), PySem.W.findIn X.K (.ref (c.cls k)) "__eq__" = some (some (.ref g)) ∧ PySem.W.isFn X.K (.ref g) = true ∧ FnOk X.prog X.w X.K X.mg X.base (L2.CX X.prog X.w) n g fd ps (spD c 2 fm) ∧ Room n X.A ∧ Binds X.K fd ps []
def dEqO (k : Nat) (fm : List D → M D) : D → D → M D := fun x y j => match x, y with
  | .ins k1 ns1 ds1, .ins k2 ns2 ds2 => if k1 = k ∧ k2 = k then (match fm [.ins k1 ns1 ds1, .ins k2 ns2 ds2] j with
    | .ok (.bl true) j' => if j' = j then .ok (.bl true) j else .stk
    | _ => .stk) else .stk
  | _, _ => .stk
def eqR (c : RC) (fm : List D → M D) : Addr → Addr → Hp → Prop := fun a b H => ∃ (L : List Addr) (j : List Int) (x y : D), InJ c L ∧ (∀ a ∈ L, H a ≠ none) ∧ JarAt c H j ∧ Rep c L H x (.ref a) ∧ Rep c L H y (.ref b) ∧ fm [x, y] j = .ok (.bl true) j
theorem ext_of {c : RC} {H H' : Hp} {j : List Int} (e : Ex c H H') (h : JarAt c H j) (h' : JarAt c H' j) : Ext H H' := fun a o ha => by
  by_cases z : a ∈ c.Js
  · obtain ⟨hh, rfl⟩ := RC.mem_Js.mp z
    rw [h hh] at ha
    cases ha
    exact h' hh
  · exact e a o z ha
theorem spEq_of {fm : List D → M D} : ∀ vs H Q E, spEq (eqR c fm) vs H Q E → spD c 2 fm vs H Q E := fun vs H Q E ⟨a, b, e, ⟨L, j, x, y, jL, dom, hj, r1, r2, ef⟩, q⟩ => by
  subst e
  refine ⟨rfl, L, j, [x, y], jL, dom, hj, ⟨_, _, rfl, r1, _, _, rfl, r2, rfl⟩, ?_⟩
  rw [ef]
  intro v H' e1 hj' rp
  cases (show v = .bl true from rp)
  exact q H' (ext_of e1 hj hj')
theorem ok_eqO {k : Nat} {fm : List D → M D} : Ok2 m c (rEqG (DIns (c.cls k) (eqR c fm))) .keep .keep (dEqO k fm) := by
  intro B O W ρ j σ H Q x y v w rel ⟨_, rx⟩ ⟨_, ry⟩ out
  unfold dEqO at out
  split at out <;> first | exact out.elim | skip
  rename_i k1 ns1 ds1 k2 ns2 ds2
  by_cases h : k1 = k ∧ k2 = k
  · rw [if_pos h] at out
    obtain ⟨rfl, rfl⟩ := h
    split at out <;> first | exact out.elim | skip
    rename_i j' ef
    by_cases hj : j' = j
    · rw [if_pos hj] at out
      subst hj
      have rx : Rep c (O ++ B) H (.ins k2 ns1 ds1) v := rx
      have ry : Rep c (O ++ B) H (.ins k2 ns2 ds2) w := ry
      have rx' := rx
      have ry' := ry
      obtain ⟨a, dx, vs, rfl, n1, t1, l1, r1⟩ := rx
      obtain ⟨b, dy, ws, rfl, n2, t2, l2, r2⟩ := ry
      exact ⟨⟨a, b, dx, dy, _, _, rfl, rfl, t1, t2, O ++ B, j', _, _, rel.jL, rel.dom, rel.jar, rx', ry', ef⟩, fun H' e => out (.bl true) H' (fun x u n h => e x u h) (fun hh => e _ _ (rel.jar hh)) (RepM.of rel.jL rfl rfl)⟩
    · rw [if_neg hj] at out
      exact out.elim
  · rw [if_neg h] at out
    exact out.elim
theorem me_eqO {k : Nat} {fm : List D → M D} (T : EqT X c k fm) (ha : ME X .keep c B W a ma) (hb : ME X .keep c B W b mb) (hm : behindInMarks .Eq b = false := by rfl) : ME X m c B W (.Compare a [.Eq] [b] pos) (mBin (dEqO k fm) ma mb) := by
  obtain ⟨n, g, fd, ps, h1, h2, F, hr, hb'⟩ := T.ex
  have F2 : FnOk X.prog X.w X.K X.mg X.base (L2.CX X.prog X.w) n g fd ps (spEq (eqR c fm)) := F.imp spEq_of
  exact me_cmp (op_eqG (rcG_ins (R := eqR c fm) F2 h1 h2 hb' (passL (X := X))) hr) ok_eqO ha hb hm
theorem eqT_of {k n : Nat} {g : Addr} {fd : FuncData} {ps : List Str} {fm : List D → M D} (h : PySem.W.findIn X.K (.ref (c.cls k)) "__eq__" = some (some (.ref g)) ∧ PySem.W.isFn X.K (.ref g) = true) (F : FnOk X.prog X.w X.K X.mg X.base (L2.CX X.prog X.w) n g fd ps (spD c 2 fm)) (hr : Room n X.A) (b : Binds X.K fd ps []) : EqT X c k fm :=
  ⟨n, g, fd, ps, h.1, h.2, F, hr, b⟩
end Mir
set_option Elab.async false
set_option linter.all false
set_option maxRecDepth 100000
set_option maxHeartbeats 4000000
/-! Mir31: chains of three comparisons; zip of three. -/
namespace Mir
open PySem L2 PySem.Spec PyProof.Rows
variable {X : Cx} {m : Md} {c : RC} {B O O' L : List Addr} {W : WX} {e a b : Expr} {me ma mb mc md : Env → M D} {pos : Pos} {σ : L2.St} {H H' : Hp} {Q : VK} {ρ : Env} {j : List Int}
/-- behind the first link: y op c op d -/
def tLink (r' r'' : R2) (y : V) (tc td : TE) : TE := fun σ H Q => tc σ H fun w H4 => r' y w H4 fun z H5 => ∃ k, z = .bl k ∧ (if k = true then td σ H5 fun u H6 => r'' w u H6 Q else Q (.bl false) H5)
def tChain3 (r r' r'' : R2) (ta tb tc td : TE) : TE := fun σ H Q => ta σ H fun x H1 => tb σ H1 fun y H2 => r x y H2 fun z H3 => ∃ k, z = .bl k ∧ (if k = true then tLink r' r'' y tc td σ H3 Q else Q (.bl false) H3)
theorem pe_chain3 {op op' op'' : CmpOp} {r r' r'' : R2} {ta tb tc td : TE} {d f : Expr} (ho : OpR X (compareOp op) r) (ho' : OpR X (compareOp op') r') (ho'' : OpR X (compareOp op'') r'') (ha : PE X a ta) (hb : PE X b tb) (hc : PE X d tc) (hd : PE X f td)
    (hm : lastMarks [op, op', op''] [b, d, f] = false := by rfl) : PE X (.Compare a [op, op', op''] [b, d, f] pos) (tChain3 r r' r'' ta tb tc td) := by
  refine ⟨fun pins s σ H Q I h => ?_⟩
  refine Compare_chain (thn (ha.run pins s σ H _ I h) fun v s1 ⟨x, H1, I1, r1, q1⟩ => chain_link (thn (hb.run pins s1 σ H1 _ I1 q1) fun u s2 ⟨y, H2, I2, r2, q2⟩ =>
    thn (ho pins s2 σ H2 x y v u _ I2 r1 r2 q2) fun d s3 ⟨z, H3, I3, r3, k, e, q3⟩ => ?_)) hm
  subst e
  cases r3
  refine wpAny_truthy_bool ?_
  cases k with
  | false => exact ite_ff ⟨.bl false, H3, I3, rfl, q3⟩
  | true =>
    refine ite_tt (chain_link (thn (hc.run pins s3 σ H3 _ I3 q3) fun w' s4 ⟨z', H4, I4, r4, q4⟩ => thn (ho' pins s4 σ H4 y z' u w' _ I4 r2 r4 q4) fun d2 s5 ⟨z2, H5, I5, r5, k2, e2, q5⟩ => ?_))
    subst e2
    cases r5
    refine wpAny_truthy_bool ?_
    cases k2 with
    | false => exact ite_ff ⟨.bl false, H5, I5, rfl, q5⟩
    | true => exact ite_tt (chain_last (thn (hd.run pins s5 σ H5 _ I5 q5) fun w2 s6 ⟨z3, H6, I6, r6, q6⟩ => ho'' pins s6 σ H6 z' z3 w' w2 Q I6 r4 r6 q6))
def mChain3 (f g h : D → D → M D) (ma mb mc md : Env → M D) : Env → M D := fun ρ => bnd (ma ρ) fun x => bnd (mb ρ) fun y => bnd (f x y) fun z => match z with
  | .bl true => bnd (mc ρ) fun u => bnd (g y u) fun z => match z with
    | .bl true => bnd (md ρ) fun t => h u t
    | .bl false => ret (.bl false)
    | _ => stuck
  | .bl false => ret (.bl false)
  | _ => stuck
theorem tChain3_of {r r' r'' : R2} {f g h : D → D → M D} (hr : Ok2 .keep c r .look .look f) (hr' : Ok2 .keep c r' .look .look g) (hr'' : Ok2 m c r'' .look .look h) (hh : rd m c B W (mChain3 f g h ma mb mc md) σ H Q) :
    tChain3 r r' r'' (rd .look c B W ma) (rd .look c B W mb) (rd .look c B W mc) (rd .look c B W md) σ H Q := by
  obtain ⟨O, ρ, j, rel, out⟩ := hh
  refine rd_bnd rel out fun x j1 v H1 rel1 e1 rp1 out1 => rd_bnd rel1 out1 fun y j2 w H2 rel2 e2 rp2 out2 => ?_
  refine hr B O W ρ j2 σ H2 _ x y v w rel2 ⟨_, rp1.ex rel.jL e2⟩ ⟨_, rp2⟩ ?_
  unfold bnd at out2
  cases q : f x y j2 with
  | stk => rw [q] at out2; exact out2.elim
  | exc k g' j' => rw [q] at out2; exact out2
  | ok z j3 =>
    rw [q] at out2
    intro u H3 e3 hj3 rp3
    have rel3 := rel2.ex e3 hj3
    have out3 := Out.ex e3 rel2.jar hj3 out2
    cases z <;> first | exact out3.elim | skip
    rename_i k
    refine ⟨k, rp3, ?_⟩
    cases k with
    | false => exact out3.val rel3 rfl
    | true =>
      refine rd_bnd rel3 out3 fun z j4 u' H4 rel4 e4 rp4 out4 => ?_
      refine hr' B O W ρ j4 σ H4 _ y z w u' rel4 ⟨_, (rp2.ex rel.jL e3).ex rel.jL e4⟩ ⟨_, rp4⟩ ?_
      unfold bnd at out4
      cases q2 : g y z j4 with
      | stk => rw [q2] at out4; exact out4.elim
      | exc k g' j' => rw [q2] at out4; exact out4
      | ok z2 j5 =>
        rw [q2] at out4
        intro u2 H5 e5 hj5 rp5
        have rel5 := rel4.ex e5 hj5
        have out5 := Out.ex e5 rel4.jar hj5 out4
        cases z2 <;> first | exact out5.elim | skip
        rename_i k2
        refine ⟨k2, rp5, ?_⟩
        cases k2 with
        | false => exact out5.val rel5 rfl
        | true => exact rd_bnd rel5 out5 fun t j6 u3 H6 rel6 e6 rp6 out6 => hr'' B O W ρ j6 σ H6 Q z t u' u3 rel6 ⟨_, (rp4.ex rel.jL e5).ex rel.jL e6⟩ ⟨_, rp6⟩ out6
theorem me_chain3 {op op' op'' : CmpOp} {r r' r'' : R2} {f g h : D → D → M D} {d x : Expr} (ho : OpR X (compareOp op) r) (ho' : OpR X (compareOp op') r') (ho'' : OpR X (compareOp op'') r'') (hr : Ok2 .keep c r .look .look f) (hr' : Ok2 .keep c r' .look .look g) (hr'' : Ok2 m c r'' .look .look h)
    (ha : ME X .look c B W a ma) (hb : ME X .look c B W b mb) (hd : ME X .look c B W d mc) (hx : ME X .look c B W x md) (hm : lastMarks [op, op', op''] [b, d, x] = false := by rfl) : ME X m c B W (.Compare a [op, op', op''] [b, d, x] pos) (mChain3 f g h ma mb mc md) :=
  me_mono (pe_chain3 ho ho' ho'' ha hb hd hx hm) fun _ _ _ h => tChain3_of hr hr' hr'' h
/-! ### zip of three -/
def ItzF3 (K : PySem.W.Frag) (k1 k2 k3 : Kd) : It :=
  ⟨fun i H => ∃ (xs ys zs : List V) (x y z : V), k1.at K H xs ∧ k2.at K H ys ∧ k3.at K H zs ∧ xs[i]? = some x ∧ ys[i]? = some y ∧ zs[i]? = some z,
    fun i H v H' => ∃ T o x y z, v = .ref T ∧ H T = none ∧ o.dict = none ∧ H' = upd H T (.frz o (.tup [x, y, z])) ∧ (∀ xs, k1.at K H xs → xs[i]? = some x) ∧ (∀ ys, k2.at K H ys → ys[i]? = some y) ∧ ∀ zs, k3.at K H zs → zs[i]? = some z,
    fun i H => ∃ xs ys zs : List V, k1.at K H xs ∧ k2.at K H ys ∧ k3.at K H zs ∧ i ≤ xs.length ∧ i ≤ ys.length ∧ i ≤ zs.length ∧ (i = xs.length ∨ i = ys.length ∨ i = zs.length)⟩
theorem six {c N : Addr} (h : c ∈ ([N + 5, N + 3, N + 4, N, N + 1, N + 2] : List Addr)) : c = N + 5 ∨ c = N + 3 ∨ c = N + 4 ∨ c = N ∨ c = N + 1 ∨ c = N + 2 := by simpa using h
theorem turn_zipF3 {P : Program} {w : World} {K : PySem.W.Frag} {elts : List Expr} {kk : Nat} {tpos : Pos} (k1 k2 k3 : Kd) (N : Nat) (h1 : ∀ a ∈ k1.ads, a < N) (h2 : ∀ a ∈ k2.ads, a < N) (h3 : ∀ a ∈ k3.ads, a < N) :
    Turn P w K (.Tuple elts kk tpos) (ItzF3 K k1 k2 k3) [N + 5, N + 3, N + 4, N, N + 1, N + 2] (N + 5) (fun i h => IsZip h (N + 5) (N + 3) (N + 4) .none ∧ IsTupOf3 h (N + 3) (.ref N) (.ref (N + 1)) (.ref (N + 2)) ∧ (∃ x y z, IsTupOf3 h (N + 4) x y z) ∧ k1.it N i h ∧ k2.it (N + 1) i h ∧ k3.it (N + 2) i h) where
  mem := by simp
  obj := fun i h st b hb => by
    obtain ⟨hz, hTI, ⟨x, y, z, hTO⟩, q1, q2, q3⟩ := st
    rcases six hb with q | q | q | q | q | q
    · rw [q]; exact ⟨_, hz, fun v q => nomatch q⟩
    · rw [q]; exact ⟨_, hTI, fun v q => nomatch q⟩
    · rw [q]; exact ⟨_, hTO, fun v q => nomatch q⟩
    · rw [q]; exact Kd.it_obj q1
    · rw [q]; exact Kd.it_obj q2
    · rw [q]; exact Kd.it_obj q3
  keep := fun i h h' st k => by
    obtain ⟨hz, hTI, ⟨x, y, z, hTO⟩, q1, q2, q3⟩ := st
    exact ⟨k _ (by simp) _ hz, k _ (by simp) _ hTI, ⟨x, y, z, k _ (by simp) _ hTO⟩, Kd.it_at q1 fun o q => k N (by simp) o q, Kd.it_at q2 fun o q => k (N + 1) (by simp) o q, Kd.it_at q3 fun o q => k (N + 2) (by simp) o q⟩
  item := by
    intro X hP hw hK hc i pins s σ H E I hf st hg
    subst hP hw hK
    obtain ⟨hz, hTI, ⟨x0, y0, z0, hTO⟩, q1, q2, q3⟩ := st
    obtain ⟨xs, ys, zs, x, y, z, hqx, hqy, hqz, hx, hy, hzz⟩ := hg
    obtain ⟨P1, S1, D1, a1, a2, a3⟩ := Kd.draws (it := N) hc I hqx fun a ha => Nat.ne_of_lt (h1 a ha)
    obtain ⟨P2, S2, D2, b1, b2, b3⟩ := Kd.draws (it := N + 1) hc I hqy fun a ha => Nat.ne_of_lt (Nat.lt_succ_of_lt (h2 a ha))
    obtain ⟨P3, S3, D3, c1, c2, c3⟩ := Kd.draws (it := N + 2) hc I hqz fun a ha => Nat.ne_of_lt (Nat.lt_succ_of_lt (Nat.lt_succ_of_lt (h3 a ha)))
    have Z := zip_sep3 h1 h2 h3
    have zl : (N + 5 : Nat) < s.heap.objs.size := Heap.lt_size hz
    refine wpAny_pyNext_zipD3_item Z D1 D2 D3 hz hTI hTO (a1 i q1) (b1 i q2) (c1 i q3) (List.getElem?_eq_some_iff.mp hx).1 (List.getElem?_eq_some_iff.mp hy).1 (List.getElem?_eq_some_iff.mp hzz).1 fun u1 u2 u3 h' tk hu1 hu2 hu3 hz' hTO' st1 st2 st3 hT hsz hk => ?_
    obtain ⟨x', hx', ru⟩ := a3 i u1 hu1
    rw [hx] at hx'; cases hx'
    obtain ⟨y', hy', ru2⟩ := b3 i u2 hu2
    rw [hy] at hy'; cases hy'
    obtain ⟨z', hz2, ru3⟩ := c3 i u3 hu3
    rw [hzz] at hz2; cases hz2
    refine ⟨_, rfl, wpAny_letOwnedTupleGo_zip (s := { s with heap := h', toks := tk }) hz' fun h'' z'' sb => ?_⟩
    have hT2 : h''.get? s.heap.objs.size = some { cls := .type "tuple", data := .seq #[u1, u2, u3] } := (sb.2 _ (Nat.ne_of_gt zl)).trans hT
    have new : ObjOk X.prog X.w (upd H s.heap.objs.size (.frz { cls := .type "tuple", data := .seq #[u1, u2, u3] } (.tup [x, y, z]))) h'' s.heap.objs.size (.frz { cls := .type "tuple", data := .seq #[u1, u2, u3] } (.tup [x, y, z])) :=
      ⟨hT2, by show 3 ≤ sizeLine; decide, [u1, u2, u3], .cons ru (.cons ru2 (.cons ru3 .nil)), ⟨_, hT2, rfl, _, rfl⟩⟩
    have I1 : Inv X pins σ (upd H s.heap.objs.size (.frz { cls := .type "tuple", data := .seq #[u1, u2, u3] } (.tup [x, y, z]))) { s with heap := h'', toks := tk } :=
      I.turnedNew (ch := [N + 5, N + 3, N + 4, N, N + 1, N + 2]) (fun c o hb q => (sb.2 c (fun z => hb (by simp [z]))).trans (hk c o (fun z => hb (by simp [z])) (fun z => hb (by simp [z])) (fun z => hb (by simp [z])) (fun z => hb (by simp [z])) (fun z => hb (by simp [z])) q)) hf (Nat.le_refl _) new
    refine ⟨.ref s.heap.objs.size, _, I1, rfl, ⟨_, _, x, y, z, rfl, I.hok.fresh (Nat.le_refl _), rfl, rfl, fun l hl => by rw [Kd.inj I hl hqx]; exact hx, fun l hl => by rw [Kd.inj I hl hqy]; exact hy, fun l hl => by rw [Kd.inj I hl hqz]; exact hzz⟩, ⟨z'', ?_, ⟨u1, u2, u3, ?_⟩, ?_, ?_, ?_⟩, fun c hcm => ?_⟩
    · exact (sb.2 _ Z.TIz).trans (hk _ _ Z.TIz Z.TITO Z.TIi1 Z.TIi2 Z.TIi3 hTI)
    · exact (sb.2 _ Z.TOz).trans hTO'
    · exact Kd.it_at (a2 _ _ st1) fun o q => (sb.2 _ (Ne.symm Z.zi1)).trans q
    · exact Kd.it_at (b2 _ _ st2) fun o q => (sb.2 _ (Ne.symm Z.zi2)).trans q
    · exact Kd.it_at (c2 _ _ st3) fun o q => (sb.2 _ (Ne.symm Z.zi3)).trans q
    · have hlt : c < s.heap.objs.size := by
        refine Nat.lt_of_le_of_lt (m := N + 5) ?_ zl
        rcases six hcm with z | z | z | z | z | z
        · exact Nat.le_of_eq z
        all_goals (rw [z]; show (_ : Nat) ≤ _; simp)
      rw [upd_ne (Nat.ne_of_lt hlt)]
      exact (hf c hcm).1
  done := by
    intro X hP hw hK hc i pins s σ H E I hf st hg
    subst hP hw hK
    obtain ⟨hz, hTI, ⟨x0, y0, z0, hTO⟩, q1, q2, q3⟩ := st
    obtain ⟨xs, ys, zs, hqx, hqy, hqz, l1, l2, l3, hend⟩ := hg
    obtain ⟨P1, S1, D1, a1, a2, a3⟩ := Kd.draws (it := N) hc I hqx fun a ha => Nat.ne_of_lt (h1 a ha)
    obtain ⟨P2, S2, D2, b1, b2, b3⟩ := Kd.draws (it := N + 1) hc I hqy fun a ha => Nat.ne_of_lt (Nat.lt_succ_of_lt (h2 a ha))
    obtain ⟨P3, S3, D3, c1, c2, c3⟩ := Kd.draws (it := N + 2) hc I hqz fun a ha => Nat.ne_of_lt (Nat.lt_succ_of_lt (Nat.lt_succ_of_lt (h3 a ha)))
    exact wpAny_pyNext_zipD3_end (zip_sep3 h1 h2 h3) D1 D2 D3 hz hTI hTO (a1 i q1) (b1 i q2) (c1 i q3) l1 l2 l3 hend fun h' tk hk => ⟨rfl, I.turnedL (t' := tk) (ch := [N + 5, N + 3, N + 4, N, N + 1, N + 2]) (fun c o hb q =>
      hk c o (fun z => hb (by simp [z])) (fun z => hb (by simp [z])) (fun z => hb (by simp [z])) (fun z => hb (by simp [z])) (fun z => hb (by simp [z])) q) hf⟩
  self := fun A i s Q E st h => wpAny_pyIter_zip st.1 h
theorem vals_three {x y z : V} {us : List Value} (h : Vals [x, y, z] us) : ∃ u v w, us = [u, v, w] ∧ RelV x u ∧ RelV y v ∧ RelV z w := by
  cases h with
  | cons r h =>
    obtain ⟨v, w, e, r2, r3⟩ := Vals.two h
    subst e
    exact ⟨_, v, w, rfl, r, r2, r3⟩
def iZipF3 (K : PySem.W.Frag) (ta : TA) : TI := fun σ H R => ta σ H fun vs H1 => ∃ v w u xs ys zs, vs = [v, w, u] ∧ kdOf v H1 K xs fun k1 => kdOf w H1 K ys fun k2 => kdOf u H1 K zs fun k3 => R (ItzF3 K k1 k2 k3) H1
theorem pi_zipF3 {e e2 e3 : Expr} {ta : TA} {p tpos : Pos} {elts : List Expr} {kk : Nat} (hm : X.mg "zip" = none) (ha : PA X [e, e2, e3] ta) (hg : Gl X "zip" := by rfl)
    (hs : starEach [e, e2, e3] X.env = (false, eval e X.env) :: starEach [e2, e3] X.env := by rfl) (hpl : (backTo pos (starEach [e2, e3] X.env)).any (·.1) = false := by rfl) :
    PI X (.Tuple elts kk tpos) (.Call (.Name "zip" p) [e, e2, e3] [] pos) (iZipF3 X.K ta) := by
  refine ⟨fun pins s σ H R I h => ?_⟩
  refine Call_ (ld_blt I hg hm PyProof.Rows.boot_zip (PyProof.Rows.callWith_type1 (thn (ha.run pos pins s σ H _ I h) fun us s1 ⟨vs, H1, I1, r1, v, w, u, xs, ys, zs, ev, q1⟩ => ?_) hs hpl))
  subst ev
  obtain ⟨u1, u2, u3, rfl, ru1, ru2, ru3⟩ := vals_three r1
  obtain ⟨k1, hk1, rfl, q2⟩ := q1.out ru1
  obtain ⟨k2, hk2, rfl, q3⟩ := q2.out ru2
  obtain ⟨k3, hk3, rfl, q⟩ := q3.out ru3
  obtain ⟨H1q, B1, hb1⟩ := Kd.begins I1 hk1
  obtain ⟨H2q, B2, hb2⟩ := Kd.begins I1 hk2
  obtain ⟨H3q, B3, hb3⟩ := Kd.begins I1 hk3
  refine zip_begins3 B1 B2 B3 hb1 hb2 hb3 fun h' hz hTI hTO g1 g2 g3 hsz hkeep => wpAny_pyIter_zip hz ?_
  have I2 : Inv X pins σ H1 { s1 with heap := h' } := I1.kept (t' := s1.toks) hkeep
  refine ⟨s1.heap.objs.size + 5, _, _, _, H1, rfl, I2, turn_zipF3 k1 k2 k3 s1.heap.objs.size (Kd.len I1 hk1) (Kd.len I1 hk2) (Kd.len I1 hk3), ⟨hz, hTI, ⟨_, _, _, hTO⟩, Kd.it0 g1, Kd.it0 g2, Kd.it0 g3⟩, fun c hcm => ?_, q⟩
  have hle : s1.heap.objs.size ≤ c := by
    rcases six hcm with z | z | z | z | z | z
    · rw [z]; exact Nat.le_add_right _ _
    · rw [z]; exact Nat.le_add_right _ _
    · rw [z]; exact Nat.le_add_right _ _
    · rw [z]; exact Nat.le_refl _
    · rw [z]; exact Nat.le_add_right _ _
    · rw [z]; exact Nat.le_add_right _ _
  exact I1.fpOk hle (I1.hok.fresh hle)
theorem kdOf_any {H : Hp} {d : D} {v : V} {ds : List D} (jB : InJ c B) (rp : Rep c (O ++ B) H d v) (h : itemsD d = some ds) : ∃ xs, ∀ R : Kd → Prop, (∀ k, KdR c B O H k ds xs → R k) → kdOf v H c.K xs R := by
  cases d <;> cases h
  · rename_i z
    cases (show v = .str z from rp)
    exact ⟨signs z, fun R hR => .inr (.inr ⟨z, rfl, rfl, fun tk => hR _ fun O2 H2 g => ⟨rfl, Reps.signs z⟩⟩)⟩
  · obtain ⟨a, vs, rfl, t, r⟩ := rp
    exact ⟨vs, fun R hR => .inr (.inl ⟨a, rfl, t.sq, hR (.t a) fun O2 H2 g => ⟨(t.grow g jB).sq, Reps.grow g jB _ vs r⟩⟩)⟩
  · obtain ⟨a, vs, rfl, n, t, r⟩ := rp
    exact ⟨vs, fun R hR => .inl ⟨a, rfl, SqL.of t, hR (.l a) fun O2 H2 g => ⟨SqL.of (g.at jB n t).2, Reps.grow g jB _ vs r⟩⟩⟩
def zipD3 : List D → List D → List D → List D
  | d :: ds, e :: es, f :: fs => .tup [d, e, f] :: zipD3 ds es fs
  | _, _, _ => []
theorem zipD3_get : ∀ (ds es fs : List D) (i : Nat) (d : D), (zipD3 ds es fs)[i]? = some d → ∃ x y z, ds[i]? = some x ∧ es[i]? = some y ∧ fs[i]? = some z ∧ d = .tup [x, y, z]
  | [], _, _, i, d, h => by simp [zipD3] at h
  | _ :: _, [], _, i, d, h => by simp [zipD3] at h
  | _ :: _, _ :: _, [], i, d, h => by simp [zipD3] at h
  | x :: ds, y :: es, z :: fs, 0, d, h => by simp [zipD3] at h; exact ⟨x, y, z, rfl, rfl, rfl, h.symm⟩
  | x :: ds, y :: es, z :: fs, i + 1, d, h => by
    simp only [zipD3, List.getElem?_cons_succ] at h ⊢
    exact zipD3_get ds es fs i d h
theorem zipD3_len : ∀ (ds es fs : List D), (zipD3 ds es fs).length = min ds.length (min es.length fs.length)
  | [], _, _ => by simp [zipD3]
  | _ :: _, [], _ => by simp [zipD3]
  | _ :: _, _ :: _, [] => by simp [zipD3]
  | x :: ds, y :: es, z :: fs => by simp [zipD3, zipD3_len ds es fs]; try omega
theorem trip_new {T : Addr} {ob : Obj} {O2 : List Addr} {H2 : Hp} {d1 d2 d3 : D} {x y z : V} (g : ∃ j, JarAt c H2 j) (dom : ∀ a ∈ O2 ++ B, H2 a ≠ none) (hT : H2 T = none) (ho : ob.dict = none) (r1 : Rep c (O2 ++ B) H2 d1 x) (r2 : Rep c (O2 ++ B) H2 d2 y) (r3 : Rep c (O2 ++ B) H2 d3 z) :
    Ex c H2 (upd H2 T (.frz ob (.tup [x, y, z]))) ∧ Rep c (O2 ++ B) (upd H2 T (.frz ob (.tup [x, y, z]))) (.tup [d1, d2, d3]) (.ref T) ∧ ∀ q ∈ c.Js, upd H2 T (.frz ob (.tup [x, y, z])) q = H2 q := by
  have e : ExS [] H2 (upd H2 T (.frz ob (.tup [x, y, z]))) := ExS.new hT
  refine ⟨ExS.mono (S := []) (fun _ z => nomatch z) e, ⟨T, [x, y, z], rfl, .inl ⟨fun z => dom T z hT, ob, upd_same, ho⟩, ⟨x, [y, z], rfl, Rep.exS (S := []) (fun _ z => nomatch z) e _ _ r1, ⟨y, [z], rfl, Rep.exS (S := []) (fun _ z => nomatch z) e _ _ r2, ⟨z, [], rfl, Rep.exS (S := []) (fun _ z => nomatch z) e _ _ r3, rfl⟩⟩⟩⟩, ?_⟩
  obtain ⟨j, hj⟩ := g
  intro q hq
  obtain ⟨hh, rfl⟩ := RC.mem_Js.mp hq
  rw [upd_ne (ne_of_none (hj hh) hT)]
theorem iter_zip3 {k1 k2 k3 : Kd} {ds es fs : List D} {xs ys zs : List V} (h1 : KdR c B O H k1 ds xs) (h2 : KdR c B O H k2 es ys) (h3 : KdR c B O H k3 fs zs) : IterOk c B O (ItzF3 c.K k1 k2 k3) (zipD3 ds es fs) H := fun i O2 H2 g dom hj => by
  obtain ⟨t1, r1⟩ := h1 O2 H2 g
  obtain ⟨t2, r2⟩ := h2 O2 H2 g
  obtain ⟨t3, r3⟩ := h3 O2 H2 g
  have l1 := r1.len
  have l2 := r2.len
  have l3 := r3.len
  have lz := zipD3_len ds es fs
  refine ⟨fun hi => ?_, fun d x H3 hd hy => ?_, fun hi => ?_⟩
  · exact ⟨xs, ys, zs, xs[i]'(by omega), ys[i]'(by omega), zs[i]'(by omega), t1, t2, t3, List.getElem?_eq_getElem _, List.getElem?_eq_getElem _, List.getElem?_eq_getElem _⟩
  · obtain ⟨T, ob, x', y', z', rfl, hT, ho, rfl, hx, hy, hz⟩ := hy
    obtain ⟨d1, d2, d3, q1, q2, q3, rfl⟩ := zipD3_get ds es fs i d hd
    exact trip_new hj dom hT ho (Reps.inj_get r1 q1 (hx xs t1)) (Reps.inj_get r2 q2 (hy ys t2)) (Reps.inj_get r3 q3 (hz zs t3))
  · exact ⟨xs, ys, zs, t1, t2, t3, by omega, by omega, by omega, by omega⟩
def dZip3 : List D → M (List D)
  | [d, e, f] => match itemsD d, itemsD e, itemsD f with
    | some ds, some es, some fs => ret (zipD3 ds es fs)
    | _, _, _ => stuck
  | _ => stuck
theorem mi_zip3 {d : Expr} {elts : List Expr} {kk : Nat} {tpos p : Pos} {ml : Env → M (List D)} (hK : X.K = c.K) (hm : X.mg "zip" = none) (h : MA X c B W [a, b, d] ml) (hg : Gl X "zip" := by rfl)
    (hs : starEach [a, b, d] X.env = (false, eval a X.env) :: starEach [b, d] X.env := by rfl) (hpl : (backTo pos (starEach [b, d] X.env)).any (·.1) = false := by rfl) :
    MI X c B W (.Tuple elts kk tpos) (.Call (.Name "zip" p) [a, b, d] [] pos) (mArgI dZip3 ml) :=
  pi_mono (pi_zipF3 hm h hg hs hpl) fun σ H R ⟨O, ρ, j, rel, out⟩ => rdA_bndI rel out fun ds j1 vs H1 rel1 rp out1 => by
    match ds, rp, out1 with
    | [d, e, f], rp, out1 =>
      obtain ⟨v, w, rfl, r1, v2, w2, rfl, r2, v3, w3, rfl, r3, r4⟩ := rp
      cases (show w3 = [] from r4)
      have out1 : OutI c B O W σ H1 R ((match itemsD d, itemsD e, itemsD f with
        | some ds, some es, some fs => ret (zipD3 ds es fs)
        | _, _, _ => stuck : M (List D)) j1) := out1
      cases q : itemsD d with
      | none => rw [q] at out1; exact out1.elim
      | some ds =>
        cases q2 : itemsD e with
        | none => rw [q, q2] at out1; exact out1.elim
        | some es =>
          cases q3 : itemsD f with
          | none => rw [q, q2, q3] at out1; exact out1.elim
          | some fs =>
            rw [q, q2, q3] at out1
            obtain ⟨xs, g1⟩ := kdOf_any rel1.jB r1 q
            obtain ⟨ys, g2⟩ := kdOf_any rel1.jB r2 q2
            obtain ⟨zs, g3⟩ := kdOf_any rel1.jB r3 q3
            rw [hK]
            exact ⟨v, v2, v3, xs, ys, zs, rfl, g1 _ fun k1 t1 => g2 _ fun k2 t2 => g3 _ fun k3 t3 => out1 _ H1 ExS.refl rel1.jar (iter_zip3 t1 t2 t3)⟩
    | [], _, out1 => exact out1.elim
    | [_], _, out1 => exact out1.elim
    | [_, _], _, out1 => exact out1.elim
    | _ :: _ :: _ :: _ :: _, _, out1 => exact out1.elim
end Mir
set_option Elab.async false
set_option linter.all false
set_option maxRecDepth 100000
set_option maxHeartbeats 4000000
/-! Mir32: several targets of a list or a tuple. -/
namespace Mir
open PySem L2
section
variable {X : Cx} {c : RC} {B : List Addr} {pos : Pos}
theorem pg_or {tg : Expr} {t t' : TG} (h : PG X tg t) (h' : PG X tg t') : PG X tg (fun v σ H Q => t v σ H Q ∨ t' v σ H Q) := ⟨fun pins s σ H v u Q I r hq => hq.elim (h.run pins s σ H v u Q I r) (h'.run pins s σ H v u Q I r)⟩
def gSeqD (n : Nat) (r : List D → Mir.Env → M Mir.Env) : D → Mir.Env → M Mir.Env := fun d ρ => match d with
  | .tup ds => if ds.length = n then r ds ρ else stuck
  | .lst ds => if ds.length = n then r ds ρ else stuck
  | _ => stuck
theorem mg_seq {es : List Expr} {k n : Nat} {r : List D → Mir.Env → M Mir.Env} (hK : X.K = c.K) (hc : X.calm = true) (h : MGs X c B es r) (hn : (assignEach es X.env).length = n := by rfl) (hst : (assignEach es X.env).findIdx? (·.1) = none := by rfl) :
    MG X c B (.Tuple es k pos) (gSeqD n r) := pg_mono (pg_or (mg_tup hK hc h hn hst) (mg_lst hc h hn hst)) fun v σ H Q ⟨O, ρ, j, d, rel, rp, out⟩ => by
  cases d <;> first | exact out.elim | skip
  · exact .inl ⟨O, ρ, j, _, rel, rp, out⟩
  · exact .inr ⟨O, ρ, j, _, rel, rp, out⟩
end
end Mir
set_option Elab.async false
set_option linter.all false
set_option maxRecDepth 100000
set_option maxHeartbeats 4000000
/-! PailG: the def that makes the jar of a script (k40 to k54), and the law over it. -/
namespace Mir
open PySem L2
theorem mSeq_ok {a b : Env → M Fl} {ρ ρ' : Env} {j j' : List Int} (h : a ρ j = .ok (.nx ρ') j') : mSeq a b ρ j = b ρ' j' := by
  unfold mSeq
  rw [bnd_ok h]
theorem mCons_ok {me : Env → M D} {ml : Env → M (List D)} {ρ : Env} {j j1 j2 : List Int} {d : D} {ds : List D} (h : me ρ j = .ok d j1) (h2 : ml ρ j1 = .ok ds j2) : mCons me ml ρ j = .ok (d :: ds) j2 := by
  unfold mCons
  rw [bnd_ok h, bnd_ok h2]
  rfl
theorem mCl_ok {f : List D → M D} {ml : Env → M (List D)} {ρ : Env} {j j1 : List Int} {ds : List D} (h : ml ρ j = .ok ds j1) : mCl f ml ρ j = f ds j1 := by
  unfold mCl
  rw [bnd_ok h]
theorem cut_ints (ns : List Int) (lo hi : Option Int) : cutD (ns.map D.int) lo hi = ((ns.drop (HT.sIx ns.length 0 lo)).take (HT.sIx ns.length ns.length hi - HT.sIx ns.length 0 lo)).map D.int := by
  unfold cutD
  rw [List.length_map, List.map_take, List.map_drop]
def pailBody : Env → M Fl := (mSeq (mSet 2 (mBin dMod (mCl dInt (mCons (mBin dAdd (mBin dAdd (mBin dMul (mVar .look 2) (mC (.int 40009))) (mBin dMod (mCl dInt (mCons (mVar .look 3) mNil)) (mC (.int 1000003)))) (mC (.int 29))) mNil)) (mC (.int 2147483399)))) mNext)
def mPail : Env → M Fl := (mSeq (mSet 2 (mBin dAdd (mC (.int 70001)) (mBin dMul (mC (.int 9001)) (mVar .look 1)))) (mSeq (mFor (mSeqA (mSl (mVar .look 0) mNo (mYesI (mC (.int 12))))) (gN 3) pailBody) (mSeq (mSet 4 (mIfE (mAsB (mBin dLt (mVar .look 1) (mCl dLen (mCons (mVar .look 0) mNil)))) (mCl dInt (mCons (mBin dIx (mVar .look 0) (mVar .look 1)) mNil)) (mC (.int 0)))) (mSeq (mRetF (mLst (mCons (mVar .keep 2) (mCons (mIfE (mOr (mAsB (mBin dLt (mVar .look 4) (mC (.int 0)))) (mAsB (mBin dGe (mVar .look 4) (mBin dPow (mC (.int 10)) (mC (.int 12)))))) (mCl dAbs (mCons (mVar .look 4) mNil)) (mC (.int 0))) mNil)))) mNext))))
def rhoP (ns : List Int) (t m : Int) (s : Sl) : Env := [.val (.scr ns), .val (.int t), .val (.int m), s, .no]
theorem pail_step (ns : List Int) (t m x : Int) (j : List Int) (h0 : 0 ≤ m) (h1 : m < 2147483399) :
    pailBody (rhoP ns t m (.val (.int x))) j = .ok (.nx (rhoP ns t ((m * 40009 + x % 1000003 + 29) % 2147483399) (.val (.int x)))) j := by
  simp [pailBody, rhoP, mSeq, mSet, mBin, mCl, mCons, mNil, mVar, slVal, mC, bnd, ret, need, dMod, dInt, dAdd, dMul, small, mNext]
theorem pail_loop (ns : List Int) (t : Int) (j : List Int) : ∀ (is : List Int) (m : Int) (s : Sl), 0 ≤ m → m < 2147483399 →
    ∃ m' s', 0 ≤ m' ∧ m' < 2147483399 ∧ mForL (gN 3) pailBody (is.map D.int) (rhoP ns t m s) j = .ok (.nx (rhoP ns t m' s')) j
  | [], m, s, h0, h1 => ⟨m, s, h0, h1, rfl⟩
  | x :: is, m, s, h0, h1 => by
    obtain ⟨m', s', q0, q1, q⟩ := pail_loop ns t j is ((m * 40009 + x % 1000003 + 29) % 2147483399) (.val (.int x)) (Int.emod_nonneg _ (by omega)) (Int.emod_lt_of_pos _ (by omega))
    refine ⟨m', s', q0, q1, ?_⟩
    rw [← q]
    show bnd (nox (gN 3 (.int x) (rhoP ns t m s))) _ j = _
    rw [bnd_ok (m := nox (gN 3 (.int x) (rhoP ns t m s))) (a := rhoP ns t m (.val (.int x))) (j := j) (j' := j) rfl]
    rw [bnd_ok (pail_step ns t m x j h0 h1)]
theorem own_at (ns : List Int) (t : Nat) (j : List Int) (h : t < ns.length) : atD (ns.map D.int) (t : Int) j = .ok (.int ns[t]) j := by
  have e : ixN (ns.map D.int).length (t : Int) = some t := by
    unfold ixN
    rw [List.length_map]
    simp [h]
  unfold atD
  rw [e]
  simp [h, ret]
def ownV (ns : List Int) (t : Nat) : Int := if h : t < ns.length then ns[t] else 0
theorem pail_own (ns : List Int) (t : Nat) (m : Int) (s : Sl) (j : List Int) :
    (mIfE (mAsB (mBin dLt (mVar .look 1) (mCl dLen (mCons (mVar .look 0) mNil)))) (mCl dInt (mCons (mBin dIx (mVar .look 0) (mVar .look 1)) mNil)) (mC (.int 0))) (rhoP ns t m s) j = .ok (.int (ownV ns t)) j := by
  have e : mAsB (mBin dLt (mVar .look 1) (mCl dLen (mCons (mVar .look 0) mNil))) (rhoP ns t m s) j = .ok (decide (t < ns.length)) j := by
    simp [rhoP, mAsB, mBin, mVar, slVal, mCl, mCons, mNil, bnd, ret, dLen, dLt]
  unfold mIfE
  rw [bnd_ok e]
  unfold ownV
  by_cases h : t < ns.length
  · rw [if_pos (decide_eq_true h), dif_pos h]
    simp [rhoP, mBin, mVar, slVal, mCl, mCons, mNil, bnd, ret, dIx, own_at ns t j h, dInt]
  · rw [if_neg (by simpa using h), dif_neg h]
    rfl
theorem pail_end (ns : List Int) (t m o : Int) (s : Sl) (j : List Int) :
    ∃ a, 0 ≤ a ∧ (mSeq (mRetF (mLst (mCons (mVar .keep 2) (mCons (mIfE (mOr (mAsB (mBin dLt (mVar .look 4) (mC (.int 0)))) (mAsB (mBin dGe (mVar .look 4) (mBin dPow (mC (.int 10)) (mC (.int 12)))))) (mCl dAbs (mCons (mVar .look 4) mNil)) (mC (.int 0))) mNil)))) mNext) [.val (.scr ns), .val (.int t), .val (.int m), s, .val (.int o)] j = .ok (.rtF (.lst [.int m, .int a])) j := by
  by_cases h0 : o < 0
  · refine ⟨-o, by omega, ?_⟩
    simp [mSeq, mRetF, mLst, mCons, mNil, mVar, slVal, mIfE, mOr, mAsB, mBin, dLt, dGe, dPow, mC, bnd, ret, need, mCl, dAbs, h0, LIM]
  · by_cases h1 : 1000000000000 ≤ o
    · refine ⟨o, by omega, ?_⟩
      simp [mSeq, mRetF, mLst, mCons, mNil, mVar, slVal, mIfE, mOr, mAsB, mBin, dLt, dGe, dPow, mC, bnd, ret, need, mCl, dAbs, h0, h1, LIM]
    · refine ⟨0, by omega, ?_⟩
      simp [mSeq, mRetF, mLst, mCons, mNil, mVar, slVal, mIfE, mOr, mAsB, mBin, dLt, dGe, dPow, mC, bnd, ret, need, mCl, dAbs, h0, h1, LIM]
theorem pail_out (ns : List Int) (t : Nat) (j : List Int) (ht : t < 1000) : ∃ m a, 0 ≤ m ∧ m < 2147483399 ∧ 0 ≤ a ∧ mDefF 5 mPail [.scr ns, .int t] j = .ok (.lst [.int m, .int a]) j := by
  obtain ⟨m', s', q0, q1, q⟩ := pail_loop ns t j ((ns.drop (HT.sIx ns.length 0 none)).take (HT.sIx ns.length ns.length (some 12) - HT.sIx ns.length 0 none)) (70001 + 9001 * t) .no (by omega) (by omega)
  obtain ⟨a, a0, qa⟩ := pail_end ns t m' (ownV ns t) s' j
  refine ⟨m', a, q0, q1, a0, ?_⟩
  have e1 : mSet 2 (mBin dAdd (mC (.int 70001)) (mBin dMul (mC (.int 9001)) (mVar .look 1))) (envOf 5 [.scr ns, .int t]) j = .ok (.nx (rhoP ns t (70001 + 9001 * t) .no)) j := by
    simp [mSet, mBin, dAdd, dMul, mC, mVar, slVal, envOf, bnd, ret, need, small, rhoP]
  have e2 : mFor (mSeqA (mSl (mVar .look 0) mNo (mYesI (mC (.int 12))))) (gN 3) pailBody (rhoP ns t (70001 + 9001 * t) .no) j = .ok (.nx (rhoP ns t m' s')) j := by
    rw [← q]
    have e : mSeqA (mSl (mVar .look 0) mNo (mYesI (mC (.int 12)))) (rhoP ns t (70001 + 9001 * t) .no) j = .ok (cutD (ns.map .int) none (some 12)) j := rfl
    unfold mFor
    rw [bnd_ok e, cut_ints]
  have e3 : mSet 4 (mIfE (mAsB (mBin dLt (mVar .look 1) (mCl dLen (mCons (mVar .look 0) mNil)))) (mCl dInt (mCons (mBin dIx (mVar .look 0) (mVar .look 1)) mNil)) (mC (.int 0))) (rhoP ns t m' s') j = .ok (.nx [.val (.scr ns), .val (.int t), .val (.int m'), s', .val (.int (ownV ns t))]) j := by
    unfold mSet
    rw [bnd_ok (pail_own ns t m' s' j)]
    rfl
  have e : mPail (envOf 5 [.scr ns, .int t]) j = .ok (.rtF (.lst [.int m', .int a])) j := by
    unfold mPail
    rw [mSeq_ok e1, mSeq_ok e2, mSeq_ok e3]
    exact qa
  unfold mDefF
  rw [bnd_ok e]
  rfl
/-! ### the law over it -/
def mLaw (n : Int) (fR fP : List D → M D) : Env → M Fl := (mSeq (mRet (mCl dAll (mCons (mComp [1] (mRng1 (mCl dMax (mCons (mC (.int 2)) (mCons (mCl dMin (mCons (mCl dLen (mCons (mVar .look 0) mNil)) (mCons (mC (.int n)) mNil))) mNil)))) (gN 1) mYes (mCallJ fR (mCall 2 fP (mCons (mVar .keep 0) (mCons (mVar .keep 1) mNil))))) mNil))) mNext)
/-- what the law wants of the def that makes the jar, and of the law of one jar -/
def PailOk (n : Nat) (P : List Int → Prop) (fP : List D → M D) : Prop := ∀ (ns : List Int) (t : Nat) (j : List Int), t < n → ∃ ms, P ms ∧ fP [.scr ns, .int t] j = .ok (.lst (ms.map .int)) j
theorem intsOf_map : ∀ ms : List Int, intsOf (ms.map D.int) = some ms
  | [] => rfl
  | m :: ms => by
    show (match intsOf (ms.map D.int) with
      | some ns => some (m :: ns)
      | none => none) = _
    rw [intsOf_map ms]
theorem law_lc {n : Nat} {P : List Int → Prop} {fR fP : List D → M D} (hP : PailOk n P fP) (hR : ∀ ms, P ms → ∃ j', fR [.jar] ms = .ok (.bl true) j') (ns : List Int) (s : Sl) (j : List Int) : ∀ k t : Nat, t + k ≤ n →
    mLcL (gN 1) mYes (mCallJ fR (mCall 2 fP (mCons (mVar .keep 0) (mCons (mVar .keep 1) mNil)))) ((List.range' t k).map fun i => D.int (i : Nat)) [.val (.scr ns), s] j = .ok (List.replicate k (D.bl true)) j
  | 0, t, h => rfl
  | k + 1, t, h => by
    have ih := law_lc hP hR ns s j k (t + 1) (by omega)
    rw [List.range'_succ, List.map_cons]
    obtain ⟨ms, pm, e⟩ := hP ns t j (by omega)
    obtain ⟨j', e'⟩ := hR ms pm
    have e1 : mCall 2 fP (mCons (mVar .keep 0) (mCons (mVar .keep 1) mNil)) [.val (.scr ns), .val (.int (t : Nat))] j = .ok (.lst (ms.map .int)) j := e
    have e2 : mCallJ fR (mCall 2 fP (mCons (mVar .keep 0) (mCons (mVar .keep 1) mNil))) [.val (.scr ns), .val (.int (t : Nat))] j = .ok (.bl true) j := by
      unfold mCallJ
      rw [bnd_ok e1]
      unfold dJarC
      dsimp only
      rw [intsOf_map]
      dsimp only
      rw [e']
      rfl
    show bnd (nox (gN 1 (.int (t : Nat)) [.val (.scr ns), s])) _ j = _
    rw [bnd_ok (m := nox (gN 1 (.int (t : Nat)) [.val (.scr ns), s])) (a := [.val (.scr ns), .val (.int (t : Nat))]) (j := j) (j' := j) rfl]
    rw [bnd_ok (m := nox (mYes _)) (a := true) (j := j) (j' := j) rfl, if_pos rfl]
    have e3 : nox (mCallJ fR (mCall 2 fP (mCons (mVar .keep 0) (mCons (mVar .keep 1) mNil))) [.val (.scr ns), .val (.int (t : Nat))]) j = .ok (.bl true) j := by
      unfold nox
      rw [e2]
    rw [bnd_ok e3, bnd_ok ih]
    rfl
theorem toBools_true : ∀ k : Nat, toBools (List.replicate k (D.bl true)) = some (List.replicate k true)
  | 0 => rfl
  | k + 1 => by
    rw [List.replicate_succ]
    unfold toBools
    rw [toBools_true k]
    rfl
theorem rangeD0 (k : Nat) : rangeD 0 k = (List.range' 0 k).map fun i => D.int (i : Nat) := by
  unfold rangeD
  rw [List.range_eq_range']
  refine List.map_congr_left fun x _ => ?_
  rw [Int.zero_add]
/-- the law of a script -/
theorem law_out {n : Nat} {P : List Int → Prop} {fR fP : List D → M D} (h2 : 2 ≤ n) (hn : n < 1000) (hP : PailOk n P fP) (hR : ∀ ms, P ms → ∃ j', fR [.jar] ms = .ok (.bl true) j') (ns : List Int) (j : List Int) :
    mDef 2 (mLaw n fR fP) [.scr ns] j = .ok (.bl true) j := by
  have ek : ∃ k : Nat, k ≤ n ∧ (mCl dMax (mCons (mC (.int 2)) (mCons (mCl dMin (mCons (mCl dLen (mCons (mVar .look 0) mNil)) (mCons (mC (.int n)) mNil))) mNil))) [.val (.scr ns), .no] j = .ok (.int (k : Nat)) j := by
    by_cases q : (n : Int) < (ns.length : Int)
    · by_cases q2 : (n : Int) > 2
      · exact ⟨n, Nat.le_refl _, by simp [mCl, mCons, mNil, mVar, slVal, mC, bnd, ret, dMax, dMax2, dMin, dMin2, dLen, q, q2]⟩
      · exact ⟨2, h2, by simp [mCl, mCons, mNil, mVar, slVal, mC, bnd, ret, dMax, dMax2, dMin, dMin2, dLen, q, q2]⟩
    · by_cases q2 : (ns.length : Int) > 2
      · exact ⟨ns.length, by omega, by simp [mCl, mCons, mNil, mVar, slVal, mC, bnd, ret, dMax, dMax2, dMin, dMin2, dLen, q, q2]⟩
      · exact ⟨2, h2, by simp [mCl, mCons, mNil, mVar, slVal, mC, bnd, ret, dMax, dMax2, dMin, dMin2, dLen, q, q2]⟩
  obtain ⟨k, hk, ek⟩ := ek
  have e1 : mRng1 (mCl dMax (mCons (mC (.int 2)) (mCons (mCl dMin (mCons (mCl dLen (mCons (mVar .look 0) mNil)) (mCons (mC (.int n)) mNil))) mNil))) [.val (.scr ns), .no] j = .ok ((List.range' 0 k).map fun i => D.int (i : Nat)) j := by
    unfold mRng1
    rw [bnd_ok ek]
    show (if near ((k : Nat) : Int) then ret (rangeD 0 ((k : Nat) : Int).toNat) else stuck : M (List D)) j = _
    rw [if_pos ⟨by omega, by omega⟩]
    show Res.ok (rangeD 0 ((k : Nat) : Int).toNat) j = _
    rw [Int.toNat_natCast, rangeD0]
  have e2 := law_lc hP hR ns .no j k 0 (by omega)
  have e3 : mComp [1] (mRng1 (mCl dMax (mCons (mC (.int 2)) (mCons (mCl dMin (mCons (mCl dLen (mCons (mVar .look 0) mNil)) (mCons (mC (.int n)) mNil))) mNil)))) (gN 1) mYes (mCallJ fR (mCall 2 fP (mCons (mVar .keep 0) (mCons (mVar .keep 1) mNil)))) [.val (.scr ns), .no] j = .ok (.lst (List.replicate k (D.bl true))) j := by
    unfold mComp
    rw [bnd_ok e1]
    unfold need
    rw [if_pos (by rw [List.length_map, List.length_range']; show k ≤ 16777216; omega)]
    show bnd (mLcL _ _ _ _ [.val (.scr ns), .no]) _ j = _
    rw [bnd_ok e2]
    rfl
  have e4 : mCl dAll (mCons (mComp [1] (mRng1 (mCl dMax (mCons (mC (.int 2)) (mCons (mCl dMin (mCons (mCl dLen (mCons (mVar .look 0) mNil)) (mCons (mC (.int n)) mNil))) mNil)))) (gN 1) mYes (mCallJ fR (mCall 2 fP (mCons (mVar .keep 0) (mCons (mVar .keep 1) mNil))))) mNil) [.val (.scr ns), .no] j = .ok (.bl true) j := by
    have e5 : mCons (mComp [1] (mRng1 (mCl dMax (mCons (mC (.int 2)) (mCons (mCl dMin (mCons (mCl dLen (mCons (mVar .look 0) mNil)) (mCons (mC (.int n)) mNil))) mNil)))) (gN 1) mYes (mCallJ fR (mCall 2 fP (mCons (mVar .keep 0) (mCons (mVar .keep 1) mNil))))) mNil [.val (.scr ns), .no] j = .ok [.lst (List.replicate k (D.bl true))] j := by
      exact mCons_ok e3 rfl
    rw [mCl_ok e5]
    show onBools (List.replicate k (D.bl true)) _ j = _
    unfold onBools
    rw [toBools_true]
    simp [ret]
  have e6 : mLaw n fR fP (envOf 2 [.scr ns]) j = .ok (.rt (.bl true)) j := by
    unfold mLaw mSeq mRet
    show bnd (bnd (mCl dAll _ [.val (.scr ns), .no]) _) _ j = _
    rw [bnd_assoc, bnd_ok e4]
    rfl
  unfold mDef
  rw [bnd_ok e6]
  rfl
/-- what k40 to k54 keep in the jar -/
def PailL (ms : List Int) : Prop := ∃ m a, ms = [m, a] ∧ 0 ≤ m ∧ m < 2147483399 ∧ 0 ≤ a
theorem pail_ok {n : Nat} (hn : n < 1000) : PailOk n PailL (mDefF 5 mPail) := fun ns t j ht => by
  obtain ⟨m, a, h0, h1, h2, e⟩ := pail_out ns t j (by omega)
  exact ⟨[m, a], ⟨m, a, rfl, h0, h1, h2⟩, e⟩
end Mir
set_option Elab.async false
set_option linter.all false
set_option maxRecDepth 100000
set_option maxHeartbeats 4000000
/-! Sym: how mirrors are reckoned. -/
namespace Mir
open PySem L2 PySem.Spec PyProof.Rows
section
variable {ρ ρ' : Mir.Env} {j j1 j2 : List Int} {d x y : D} {ds : List D}
theorem mSeq_rt {a b : Mir.Env → M Fl} (h : a ρ j = .ok (.rt d) j1) : mSeq a b ρ j = .ok (.rt d) j1 := by
  unfold mSeq
  rw [bnd_ok h]; rfl
theorem mBin_ok {f : D → D → M D} {ma mb : Mir.Env → M D} (h : ma ρ j = .ok x j1) (h2 : mb ρ j1 = .ok y j2) : mBin f ma mb ρ j = f x y j2 := by
  unfold mBin
  rw [bnd_ok h, bnd_ok h2]
theorem mUn_ok {f : D → M D} {ma : Mir.Env → M D} (h : ma ρ j = .ok x j1) : mUn f ma ρ j = f x j1 := by
  unfold mUn
  rw [bnd_ok h]
theorem mSet_ok {i : Nat} {me : Mir.Env → M D} (h : me ρ j = .ok d j1) : mSet i me ρ j = .ok (.nx (ρ.set i (.val d))) j1 := by
  unfold mSet
  rw [bnd_ok h]; rfl
theorem mSetO_ok {i : Nat} {me : Mir.Env → M D} (h : me ρ j = .ok d j1) : mSetO i me ρ j = .ok (.nx (ρ.set i (slOf true d))) j1 := by
  unfold mSetO
  rw [bnd_ok h]; rfl
theorem mRet_ok {me : Mir.Env → M D} (h : me ρ j = .ok d j1) : mRet me ρ j = .ok (.rt d) j1 := by
  unfold mRet
  rw [bnd_ok h]; rfl
theorem mDrop_ok {me : Mir.Env → M D} (h : me ρ j = .ok d j1) : mDrop me ρ j = .ok (.nx ρ) j1 := by
  unfold mDrop
  rw [bnd_ok h]; rfl
theorem mIf_ok {mt : Mir.Env → M Bool} {a b : Mir.Env → M Fl} {k : Bool} (h : mt ρ j = .ok k j1) : mIf mt a b ρ j = if k = true then a ρ j1 else b ρ j1 := by
  unfold mIf
  rw [bnd_ok h]
  cases k <;> rfl
theorem mIfE_ok {mt : Mir.Env → M Bool} {a b : Mir.Env → M D} {k : Bool} (h : mt ρ j = .ok k j1) : mIfE mt a b ρ j = if k = true then a ρ j1 else b ρ j1 := by
  unfold mIfE
  rw [bnd_ok h]
  cases k <;> rfl
theorem mNot_ok {mt : Mir.Env → M Bool} {k : Bool} (h : mt ρ j = .ok k j1) : mNot mt ρ j = .ok (!k) j1 := by
  unfold mNot
  rw [bnd_ok h]; rfl
theorem mTru_bl {me : Mir.Env → M D} {k : Bool} (h : me ρ j = .ok (.bl k) j1) : mTru me ρ j = .ok k j1 := by
  unfold mTru
  rw [bnd_ok h]; rfl
theorem mAsB_ok {me : Mir.Env → M D} {k : Bool} (h : me ρ j = .ok (.bl k) j1) : mAsB me ρ j = .ok k j1 := by
  unfold mAsB
  rw [bnd_ok h]; rfl
theorem mCall_ok {n : Nat} {f : List D → M D} {ml : Mir.Env → M (List D)} (h : ml ρ j = .ok ds j1) (hn : ds.length = n := by rfl) : mCall n f ml ρ j = f ds j1 := by
  unfold mCall
  rw [bnd_ok h, if_pos hn]
theorem mTup_ok {ml : Mir.Env → M (List D)} (h : ml ρ j = .ok ds j1) (hn : ds.length ≤ LIM := by decide) : mTup ml ρ j = .ok (.tup ds) j1 := by
  unfold mTup
  rw [bnd_ok h]; unfold need; rw [if_pos hn]; rfl
theorem mLst_ok {ml : Mir.Env → M (List D)} (h : ml ρ j = .ok ds j1) (hn : ds.length ≤ LIM := by decide) : mLst ml ρ j = .ok (.lst ds) j1 := by
  unfold mLst
  rw [bnd_ok h]; unfold need; rw [if_pos hn]; rfl
theorem mDef_rt {n : Nat} {ms : Mir.Env → M Fl} (h : ms (envOf n ds) j = .ok (.rt d) j1) : mDef n ms ds j = .ok d j1 := by
  unfold mDef
  rw [bnd_ok h]; rfl
theorem mDef_nx {n : Nat} {ms : Mir.Env → M Fl} (h : ms (envOf n ds) j = .ok (.nx ρ) j1) : mDef n ms ds j = .ok .non j1 := by
  unfold mDef
  rw [bnd_ok h]; rfl
theorem mNil_ok : mNil ρ j = .ok [] j := rfl
theorem mAsg_ok {me : Mir.Env → M D} {mg : D → Mir.Env → M Mir.Env} (h : me ρ j = .ok d j1) (h2 : mg d ρ j1 = .ok ρ' j2) : mAsg me mg ρ j = .ok (.nx ρ') j2 := by
  unfold mAsg
  rw [bnd_ok h]
  unfold bnd nox
  rw [h2]; rfl
theorem mApp_ok {i : Nat} {me : Mir.Env → M D} (h0 : ρ[i]? = some (.own ds)) (h : me ρ j = .ok d j1) (hl : ds.length < LIM) : mApp i me ρ j = .ok (.nx (ρ.set i (.own (ds ++ [d])))) j1 := by
  unfold mApp
  rw [h0]
  show bnd (me ρ) _ j = _
  rw [bnd_ok h, if_pos hl]; rfl
theorem mPar_ok {is : List Nat} {fl : List Bool} {ml : Mir.Env → M (List D)} (h : ml ρ j = .ok ds j1) : mPar is fl ml ρ j = .ok (.nx (setAll is (slsOf fl ds) ρ)) j1 := by
  unfold mPar
  rw [bnd_ok h]; rfl
/-! ### loops -/
/-- a for, its state told by st -/
theorem for_fold {α σ : Type} {mg : D → Mir.Env → M Mir.Env} {body : Mir.Env → M Fl} (emb : α → D) (st : σ → Mir.Env) (step : σ → α → σ) (xs : List α) (s : σ)
    (h : ∀ (s : σ) (x : α), x ∈ xs → ∃ ρ1, mg (emb x) (st s) j = .ok ρ1 j ∧ body ρ1 j = .ok (.nx (st (step s x))) j) : mForL mg body (xs.map emb) (st s) j = .ok (.nx (st (xs.foldl step s))) j := by
  induction xs generalizing s with
  | nil => rfl
  | cons x xs ih =>
    obtain ⟨ρ1, h1, h2⟩ := h s x List.mem_cons_self
    rw [List.foldl_cons, ← ih (step s x) fun s y hy => h s y (List.mem_cons_of_mem _ hy)]
    show bnd (nox (mg (emb x) (st s))) _ j = _
    have e : nox (mg (emb x) (st s)) j = .ok ρ1 j := by unfold nox; rw [h1]
    rw [bnd_ok e, bnd_ok h2]
/-- the same, with something that holds of the state -/
theorem for_inv {α σ : Type} {mg : D → Mir.Env → M Mir.Env} {body : Mir.Env → M Fl} (emb : α → D) (st : σ → Mir.Env) (step : σ → α → σ) (Inv : List α → σ → Prop) (xs : List α) (s : σ) (h0 : Inv xs s)
    (h : ∀ (s : σ) (x : α) (r : List α), Inv (x :: r) s → Inv r (step s x) ∧ ∃ ρ1, mg (emb x) (st s) j = .ok ρ1 j ∧ body ρ1 j = .ok (.nx (st (step s x))) j) : mForL mg body (xs.map emb) (st s) j = .ok (.nx (st (xs.foldl step s))) j := by
  induction xs generalizing s with
  | nil => rfl
  | cons x xs ih =>
    obtain ⟨h0', ρ1, h1, h2⟩ := h s x xs h0
    rw [List.foldl_cons, ← ih (step s x) h0']
    show bnd (nox (mg (emb x) (st s))) _ j = _
    have e : nox (mg (emb x) (st s)) j = .ok ρ1 j := by unfold nox; rw [h1]
    rw [bnd_ok e, bnd_ok h2]
theorem mFor_ok {mi : Mir.Env → M (List D)} {mg : D → Mir.Env → M Mir.Env} {body : Mir.Env → M Fl} (h : mi ρ j = .ok ds j1) : mFor mi mg body ρ j = mForL mg body ds ρ j1 := by
  unfold mFor
  rw [bnd_ok h]
/-- a comprehension without the jar -/
theorem comp_lc {α : Type} {mg : D → Mir.Env → M Mir.Env} {mt : Mir.Env → M Bool} {me : Mir.Env → M D} (emb : α → D) (p : α → Bool) (g : α → D) (xs : List α)
    (h : ∀ x ∈ xs, ∃ ρ1, mg (emb x) ρ j = .ok ρ1 j ∧ mt ρ1 j = .ok (p x) j ∧ (p x = true → me ρ1 j = .ok (g x) j)) : mLcL mg mt me (xs.map emb) ρ j = .ok ((xs.filter p).map g) j := by
  induction xs with
  | nil => rfl
  | cons x xs ih =>
    obtain ⟨ρ1, h1, h2, h3⟩ := h x List.mem_cons_self
    have ih := ih fun y hy => h y (List.mem_cons_of_mem _ hy)
    show bnd (nox (mg (emb x) ρ)) _ j = _
    have e1 : nox (mg (emb x) ρ) j = .ok ρ1 j := by unfold nox; rw [h1]
    have e2 : nox (mt ρ1) j = .ok (p x) j := by unfold nox; rw [h2]
    rw [bnd_ok e1, bnd_ok e2, List.filter_cons]
    by_cases q : p x = true
    · rw [if_pos q, if_pos q]
      have e3 : nox (me ρ1) j = .ok (g x) j := by unfold nox; rw [h3 q]
      rw [bnd_ok e3, bnd_ok ih]; rfl
    · rw [if_neg q, if_neg q]
      exact ih
theorem mComp_ok {α : Type} {vs : List Nat} {mi : Mir.Env → M (List D)} {mg : D → Mir.Env → M Mir.Env} {mt : Mir.Env → M Bool} {me : Mir.Env → M D} (emb : α → D) (p : α → Bool) (g : α → D) (xs : List α) (hi : mi ρ j = .ok (xs.map emb) j1) (hl : xs.length ≤ LIM)
    (h : ∀ x ∈ xs, ∃ ρ1, mg (emb x) (wipeE ρ vs) j1 = .ok ρ1 j1 ∧ mt ρ1 j1 = .ok (p x) j1 ∧ (p x = true → me ρ1 j1 = .ok (g x) j1)) : mComp vs mi mg mt me ρ j = .ok (.lst ((xs.filter p).map g)) j1 := by
  unfold mComp
  rw [bnd_ok hi]
  unfold need
  rw [if_pos (by rw [List.length_map]; exact hl), bnd_ok (comp_lc emb p g xs h)]; rfl
theorem mComp_all {α : Type} {vs : List Nat} {mi : Mir.Env → M (List D)} {mg : D → Mir.Env → M Mir.Env} {me : Mir.Env → M D} (emb : α → D) (g : α → D) (xs : List α) (hi : mi ρ j = .ok (xs.map emb) j1) (hl : xs.length ≤ LIM)
    (h : ∀ x ∈ xs, ∃ ρ1, mg (emb x) (wipeE ρ vs) j1 = .ok ρ1 j1 ∧ me ρ1 j1 = .ok (g x) j1) : mComp vs mi mg mYes me ρ j = .ok (.lst (xs.map g)) j1 := by
  rw [mComp_ok emb (fun _ => true) g xs hi hl fun x hx => by obtain ⟨ρ1, h1, h2⟩ := h x hx; exact ⟨ρ1, h1, rfl, fun _ => h2⟩]
  rw [List.filter_eq_self.mpr fun _ _ => rfl]
theorem mSeqA_lst {me : Mir.Env → M D} (h : me ρ j = .ok (.lst ds) j1) : mSeqA me ρ j = .ok ds j1 := by
  unfold mSeqA
  rw [bnd_ok h]; rfl
theorem mSeqA_tup {me : Mir.Env → M D} (h : me ρ j = .ok (.tup ds) j1) : mSeqA me ρ j = .ok ds j1 := by
  unfold mSeqA
  rw [bnd_ok h]; rfl
end
/-! ### lists of ints -/
theorem toInts_map : ∀ xs : List Int, toInts (xs.map D.int) = some xs
  | [] => rfl
  | x :: xs => by
    rw [List.map_cons]
    unfold toInts
    rw [toInts_map xs]; rfl
theorem toBools_map : ∀ xs : List Bool, toBools (xs.map D.bl) = some xs
  | [] => rfl
  | x :: xs => by
    rw [List.map_cons]
    unfold toBools
    rw [toBools_map xs]; rfl
/-! ### printing -/
/-- d can be printed: its depth, its length -/
def Prt (d : D) (k n : Nat) : Prop := ∃ p, toPD d = some p ∧ p.showable = true ∧ p.depth ≤ k ∧ p.shown.length ≤ n
theorem prt_non : Prt .non 0 4 := ⟨.none, rfl, rfl, Nat.le_refl _, by decide⟩
theorem prt_int {i : Int} (h : i.natAbs.log2 < 1920) : Prt (.int i) 0 1921 := ⟨.int i, rfl, decide_eq_true h, Nat.le_refl _, PyProof.Rows.int_text_len_1921 h⟩
end Mir
set_option Elab.async false
set_option linter.all false
set_option maxRecDepth 100000
set_option maxHeartbeats 4000000
/-! Sym2: what is printed, its length. -/
namespace Mir
open PySem L2 PySem.Spec PyProof.Rows
def PrtAll (ds : List D) (k n : Nat) : Prop := ∃ ps, toPDs ds = some ps ∧ PyData.showableAll ps = true ∧ PyData.depthAll ps ≤ k ∧ piled (PyData.shownAll ps) ≤ n ∧ ps.length = ds.length
theorem shownAll_len : ∀ ps : List PyData, (PyData.shownAll ps).length = ps.length
  | [] => rfl
  | p :: ps => by simp [PyData.shownAll, shownAll_len ps]
theorem prtAll_nil (k : Nat) : PrtAll [] k 0 := ⟨[], rfl, rfl, Nat.zero_le _, Nat.le_refl _, rfl⟩
theorem Prt.mono {d : D} {k k' n n' : Nat} (h : Prt d k n) (a : k ≤ k') (b : n ≤ n') : Prt d k' n' := by
  obtain ⟨p, h1, h2, h3, h4⟩ := h
  exact ⟨p, h1, h2, Nat.le_trans h3 a, Nat.le_trans h4 b⟩
theorem prtAll_cons {d : D} {ds : List D} {k n m : Nat} (h : Prt d k n) (hs : PrtAll ds k m) : PrtAll (d :: ds) k (n + 2 + m) := by
  obtain ⟨p, h1, h2, h3, h4⟩ := h
  obtain ⟨ps, g1, g2, g3, g4, g5⟩ := hs
  refine ⟨p :: ps, ?_, ?_, ?_, ?_, by simp [g5]⟩
  · unfold toPDs
    rw [h1, g1]; rfl
  · simp only [PyData.showableAll, h2, g2, Bool.and_self]
  · simp only [PyData.depthAll]; omega
  · simp only [PyData.shownAll, piled_cons]; omega
theorem listText_le (ts : List Str) : (listText ts).length ≤ piled ts + 2 := by
  unfold listText
  rw [strLen_append]
  have e1 : (("]" : String) : Str).length = 1 := rfl
  have e2 : (("[" : String) : Str).length = 1 := rfl
  cases ts with
  | nil =>
    have e : (textFrom 0 ("[" : Str) []).length = 1 := rfl
    omega
  | cons t r =>
    have h := textFrom_length_pos r 1 (("[" : Str) ++ (if (0 : Nat) > 0 then ", " else "" : String) ++ t) (Nat.succ_pos 0)
    have e3 : (textFrom 0 ("[" : Str) (t :: r)) = textFrom 1 (("[" : Str) ++ (if (0 : Nat) > 0 then ", " else "" : String) ++ t) r := rfl
    rw [e3, h, strLen_append, strLen_append, piled_cons]
    have e4 : (((if (0 : Nat) > 0 then ", " else "" : String)) : Str).length = 0 := rfl
    omega
theorem tupleText_le (ts : List Str) : (tupleText ts).length ≤ piled ts + 3 := by
  unfold tupleText
  rw [strLen_append, strLen_append]
  have e2 : (("(" : String) : Str).length = 1 := rfl
  have e3 : ((if ts.length == 1 then ",)" else ")" : String) : Str).length ≤ 2 := by split <;> decide
  cases ts with
  | nil =>
    have e : (Str.join ", " ([] : List Str)).length = 0 := rfl
    omega
  | cons t r =>
    have := join_length_add (t :: r) (by simp)
    omega
theorem prt_lst {ds : List D} {k n : Nat} (h : PrtAll ds k n) : Prt (.lst ds) (k + 1) (n + 2) := by
  obtain ⟨ps, g1, g2, g3, g4, g5⟩ := h
  refine ⟨.list ps, ?_, ?_, ?_, ?_⟩
  · show (toPDs ds).map PyData.list = _
    rw [g1]; rfl
  · simp only [PyData.showable, g2]
  · simp only [PyData.depth]; omega
  · simp only [PyData.shown]
    exact Nat.le_trans (listText_le _) (by omega)
theorem prt_tup {ds : List D} {k n : Nat} (h : PrtAll ds k n) : Prt (.tup ds) (k + 1) (n + 3) := by
  obtain ⟨ps, g1, g2, g3, g4, g5⟩ := h
  refine ⟨.tuple ps, ?_, ?_, ?_, ?_⟩
  · show (toPDs ds).map PyData.tuple = _
    rw [g1]; rfl
  · simp only [PyData.showable, g2]
  · simp only [PyData.depth]; omega
  · simp only [PyData.shown]
    exact Nat.le_trans (tupleText_le _) (by omega)
theorem prtAll_map {α : Type} {g : α → D} {k n : Nat} : ∀ xs : List α, (∀ x ∈ xs, Prt (g x) k n) → PrtAll (xs.map g) k (xs.length * (n + 2))
  | [], _ => by rw [List.length_nil, Nat.zero_mul]; exact prtAll_nil k
  | x :: xs, h => by
    have := prtAll_cons (h x List.mem_cons_self) (prtAll_map xs fun y hy => h y (List.mem_cons_of_mem _ hy))
    rw [List.map_cons, List.length_cons, Nat.add_mul, Nat.one_mul, Nat.add_comm]
    exact this
/-- the text of what can be printed -/
def txt (d : D) : Str := match toPD d with
  | some p => p.shown
  | none => Str.empty
theorem reprD_ok {d : D} {k n : Nat} {j : List Int} (h : Prt d k n) (hk : k ≤ 64) (hn : n ≤ LIM) : reprD d j = .ok (.str (txt d)) j := by
  obtain ⟨p, h1, h2, h3, h4⟩ := h
  unfold reprD txt
  rw [h1]
  dsimp only
  unfold need
  rw [if_pos ⟨h2, by omega, by omega⟩]; rfl
theorem eq_str {s t : Str} {j : List Int} : dEq (.str s) (.str t) j = .ok (.bl (decide (s = t))) j := by
  unfold dEq eqWith
  show (if scal (V.str s) (V.str t) = true then ret (D.bl (decide (V.str s = V.str t))) else deepEq (.str s) (.str t) fun b => ret (.bl b)) j = _
  rw [if_pos (show scal (V.str s) (V.str t) = true from rfl)]
  show Res.ok (D.bl (decide (V.str s = V.str t))) j = _
  have e : decide (V.str s = V.str t) = decide (s = t) := by
    by_cases h : s = t
    · subst h; simp
    · rw [decide_eq_false h, decide_eq_false fun z => h (V.str.inj z)]
  rw [e]
theorem repr_eq {x y : Mir.Env → M D} {ρ : Mir.Env} {j : List Int} {dx dy : D} (hx : mCl dRepr (mCons x mNil) ρ j = .ok (.str (txt dx)) j) (hy : mCl dRepr (mCons y mNil) ρ j = .ok (.str (txt dy)) j) (e : dx = dy) : mBin dEq (mCl dRepr (mCons x mNil)) (mCl dRepr (mCons y mNil)) ρ j = .ok (.bl true) j := by
  rw [mBin_ok hx hy, eq_str, e, decide_eq_true rfl]
/-! ### sizes of ints -/
theorem log2_lt {i : Int} (h0 : 0 ≤ i) (h : i < 2 ^ 200) : i.natAbs.log2 < 1920 := by
  have h1 : i.natAbs < 2 ^ 200 := by
    have : ((i.natAbs : Nat) : Int) < ((2 ^ 200 : Nat) : Int) := by
      rw [Int.natAbs_of_nonneg h0]
      exact_mod_cast h
    exact_mod_cast this
  by_cases q : i.natAbs = 0
  · rw [q]; decide
  · have := (Nat.log2_lt q).mpr h1
    omega
end Mir
set_option linter.all false
/-! Q70a: bounded parts with a sum: how many there are, the first, what each can be. Plain Lean. -/
namespace Q70
/-! ### sums up to a place -/
/-- f 0 + .. + f r, 0 below -/
def cumN (f : Int → Int) : Nat → Int
  | 0 => f 0
  | n + 1 => cumN f n + f (n + 1 : Nat)
def cum (f : Int → Int) (r : Int) : Int := if r < 0 then 0 else cumN f r.toNat
theorem cum_neg {f : Int → Int} {r : Int} (h : r < 0) : cum f r = 0 := if_pos h
theorem cum_step {f : Int → Int} {r : Int} (h : 0 ≤ r) : cum f r = cum f (r - 1) + f r := by
  unfold cum
  rw [if_neg (by omega)]
  obtain ⟨n, rfl⟩ := Int.eq_ofNat_of_zero_le h
  cases n with
  | zero => rw [if_pos (by omega)]; simp [cumN]
  | succ n =>
    rw [if_neg (by omega), show ((n + 1 : Nat) : Int).toNat = n + 1 by omega, show (((n + 1 : Nat) : Int) - 1).toNat = n by omega]
    rfl
/-- induction upwards from below 0 -/
theorem int_ind {P : Int → Prop} (h0 : ∀ r, r < 0 → P r) (hs : ∀ r, 0 ≤ r → P (r - 1) → P r) (r : Int) : P r := by
  by_cases h : r < 0
  · exact h0 r h
  · obtain ⟨n, rfl⟩ := Int.eq_ofNat_of_zero_le (by omega : 0 ≤ r)
    induction n with
    | zero => exact hs _ (by omega) (h0 _ (by omega))
    | succ n ih => exact hs _ (by omega) (by rw [show ((n + 1 : Nat) : Int) - 1 = (n : Nat) by omega]; exact ih (by omega))
theorem cum_congr {f g : Int → Int} (h : ∀ r, 0 ≤ r → f r = g r) (r : Int) : cum f r = cum g r := by
  refine int_ind (P := fun r => cum f r = cum g r) (fun r h => ?_) (fun r hr ih => ?_) r
  · rw [cum_neg h, cum_neg h]
  · rw [cum_step hr, cum_step hr, ih, h r hr]
theorem cum_sub {f g : Int → Int} (r : Int) : cum (fun x => f x - g x) r = cum f r - cum g r := by
  refine int_ind (P := fun r => cum (fun x => f x - g x) r = cum f r - cum g r) (fun r h => ?_) (fun r hr ih => ?_) r
  · rw [cum_neg h, cum_neg h, cum_neg h]; rfl
  · rw [cum_step hr, cum_step hr, cum_step hr, ih]; omega
/-- 0 below 0 -/
def Low (f : Int → Int) : Prop := ∀ r, r < 0 → f r = 0
theorem cum_low (f : Int → Int) : Low (cum f) := fun r h => cum_neg h
theorem cum_shift {f : Int → Int} (hf : Low f) {k : Int} (hk : 0 ≤ k) (r : Int) : cum (fun x => f (x - k)) r = cum f (r - k) := by
  refine int_ind (P := fun r => cum (fun x => f (x - k)) r = cum f (r - k)) (fun r h => ?_) (fun r hr ih => ?_) r
  · rw [cum_neg h, cum_neg (by omega)]
  · rw [cum_step hr, ih]
    by_cases h : r - k < 0
    · rw [cum_neg (by omega), cum_neg (by omega), hf _ h]; rfl
    · rw [cum_step (r := r - k) (by omega), show r - k - 1 = r - 1 - k by omega]
def cums (f : Int → Int) : Nat → Int → Int
  | 0 => f
  | m + 1 => cum (cums f m)
theorem cums_low {f : Int → Int} (h : Low f) : ∀ m, Low (cums f m)
  | 0 => h
  | m + 1 => cum_low _
/-! ### the number -/
def one0 (r : Int) : Int := if r = 0 then 1 else 0
/-- in how many ways r is the sum of parts from 0 to the widths -/
def Nc : List Int → Int → Int
  | [], r => one0 r
  | w :: ws, r => cum (Nc ws) r - cum (Nc ws) (r - w - 1)
theorem Nc_low : ∀ {ws : List Int}, (∀ w ∈ ws, 0 ≤ w) → Low (Nc ws)
  | [], _, r, h => if_neg (by omega)
  | w :: ws, hw, r, h => by
    have := hw w List.mem_cons_self
    unfold Nc
    rw [cum_neg h, cum_neg (by omega)]; rfl
theorem cums_succ (f : Int → Int) : ∀ m, cums (cum f) m = cums f (m + 1)
  | 0 => rfl
  | m + 1 => by
    show cum (cums (cum f) m) = cum (cums f (m + 1))
    rw [cums_succ f m]
theorem cums_cons {ws : List Int} {w : Int} (hw : ∀ v ∈ w :: ws, 0 ≤ v) : ∀ (m : Nat) (r : Int), cums (Nc (w :: ws)) m r = cums (Nc ws) (m + 1) r - cums (Nc ws) (m + 1) (r - w - 1)
  | 0, r => rfl
  | m + 1, r => by
    have h0 := hw w List.mem_cons_self
    show cum (cums (Nc (w :: ws)) m) r = _
    rw [cum_congr (g := fun r => cums (Nc ws) (m + 1) r - cums (Nc ws) (m + 1) (r - (w + 1))) (fun r _ => by rw [cums_cons hw m r, show r - w - 1 = r - (w + 1) by omega]) r, cum_sub]
    rw [cum_shift (f := cums (Nc ws) (m + 1)) (cum_low _) (by omega), show r - (w + 1) = r - w - 1 by omega]
    rfl
/-- by leaving out: E 0 .. of the widths over f -/
def Ex (f : Int → Int) : List Int → Int → Int
  | [], r => f r
  | w :: ws, r => Ex f ws r - Ex f ws (r - w - 1)
theorem Ex_eq : ∀ {ws : List Int} (_ : ∀ w ∈ ws, 0 ≤ w) (m : Nat) (r : Int), cums (Nc ws) m r = Ex (cums one0 (m + ws.length)) ws r
  | [], _, m, r => rfl
  | w :: ws, hw, m, r => by
    have hw' : ∀ v ∈ ws, 0 ≤ v := fun v hv => hw v (List.mem_cons_of_mem _ hv)
    rw [cums_cons hw m r, Ex_eq hw' (m + 1) r, Ex_eq hw' (m + 1) (r - w - 1)]
    have e : m + 1 + ws.length = m + (w :: ws).length := by simp; omega
    rw [e]
    rfl
/-! ### binomials -/
def Bn (p : Nat) : Int → Int := cums one0 (p + 1)
theorem Bn_zero {r : Int} (h : 0 ≤ r) : Bn 0 r = 1 := by
  show cum one0 r = 1
  have key : ∀ r : Int, (r < 0 → cum one0 r = 0) ∧ (0 ≤ r → cum one0 r = 1) := fun r => by
    refine int_ind (P := fun r => (r < 0 → cum one0 r = 0) ∧ (0 ≤ r → cum one0 r = 1)) (fun r h => ⟨fun _ => cum_neg h, fun z => by omega⟩) (fun r hr ih => ⟨fun z => by omega, fun _ => ?_⟩) r
    rw [cum_step hr]
    by_cases e : r = 0
    · subst e; rw [cum_neg (by omega)]; rfl
    · rw [ih.2 (by omega)]
      show 1 + (if r = 0 then (1 : Int) else 0) = 1
      rw [if_neg e]; rfl
  exact (key r).2 h
theorem Bn_succ (p : Nat) (r : Int) : Bn (p + 1) r = cum (Bn p) r := rfl
theorem Bn_low (p : Nat) : Low (Bn p) := cum_low _
theorem Bn_step {p : Nat} {r : Int} (h : 0 ≤ r) : Bn (p + 1) r = Bn (p + 1) (r - 1) + Bn p r := cum_step h
theorem Bn_mul : ∀ (p : Nat) (r : Int), 0 ≤ r → ((p : Int) + 1) * Bn (p + 1) r = (r + p + 1) * Bn p r
  | p, r, h => by
    -- (r + p) * Bn p (r - 1) = r * Bn p r
    have side : ∀ r : Int, 0 ≤ r → (r + p) * Bn p (r - 1) = r * Bn p r := fun r h => by
      cases p with
      | zero =>
        rw [Bn_zero h]
        by_cases e : r = 0
        · subst e; rw [Bn_low 0 (0 - 1) (by omega)]; rfl
        · rw [Bn_zero (by omega)]; simp
      | succ q =>
        have e1 := Bn_mul q r h
        have e2 := Bn_step (p := q) h
        have e3 : Bn q r = Bn (q + 1) r - Bn (q + 1) (r - 1) := by omega
        rw [e3, Int.mul_sub] at e1
        have e4 : ((q : Int) + 1) * Bn (q + 1) r = (r + q + 1) * Bn (q + 1) r - r * Bn (q + 1) r := by
          rw [← Int.sub_mul]; congr 1; omega
        have e5 : (r + ((q + 1 : Nat) : Int)) = r + q + 1 := by omega
        rw [e5]
        omega
    refine int_ind (P := fun r => 0 ≤ r → ((p : Int) + 1) * Bn (p + 1) r = (r + p + 1) * Bn p r) (fun r h1 h2 => by omega) (fun r hr ih _ => ?_) r h
    rw [Bn_step hr, Int.mul_add]
    by_cases e : r = 0
    · subst e
      rw [Bn_low (p + 1) (0 - 1) (by omega)]
      simp
    · rw [ih (by omega), show r - 1 + (p : Int) + 1 = r + p by omega, side r hr, ← Int.add_mul]
      congr 1; omega
end Q70
set_option linter.all false
/-! Q70b: all lists of parts with a sum, in order. -/
namespace Q70
/-- lo, lo + 1, .. hi -/
def upto (lo hi : Int) : List Int := (List.range (hi + 1 - lo).toNat).map fun k => lo + (k : Nat)
theorem mem_upto {lo hi x : Int} : x ∈ upto lo hi ↔ lo ≤ x ∧ x ≤ hi := by
  unfold upto
  rw [List.mem_map]
  constructor
  · rintro ⟨k, hk, rfl⟩
    rw [List.mem_range] at hk
    omega
  · intro h
    exact ⟨(x - lo).toNat, by rw [List.mem_range]; omega, by omega⟩
theorem upto_nil {lo hi : Int} (h : hi < lo) : upto lo hi = [] := by
  unfold upto
  rw [show (hi + 1 - lo).toNat = 0 by omega]; rfl
theorem upto_cons {lo hi : Int} (h : lo ≤ hi) : upto lo hi = lo :: upto (lo + 1) hi := by
  unfold upto
  rw [show (hi + 1 - lo).toNat = (hi + 1 - (lo + 1)).toNat + 1 by omega, List.range_succ_eq_map, List.map_cons, List.map_map]
  congr 1
  · simp
  · refine List.map_congr_left fun k _ => ?_
    simp; omega
theorem upto_snoc {lo hi : Int} (h : lo ≤ hi) : upto lo hi = upto lo (hi - 1) ++ [hi] := by
  unfold upto
  rw [show (hi + 1 - lo).toNat = (hi - 1 + 1 - lo).toNat + 1 by omega, List.range_succ, List.map_append]
  congr 1
  simp; omega
abbrev Es := List (Int × Int)
/-- all lists with a part in each stretch and this sum -/
def sols : Es → Int → List (List Int)
  | [], r => if r = 0 then [[]] else []
  | e :: es, r => (upto e.1 e.2).flatMap fun x => (sols es (r - x)).map (x :: ·)
def sumI (l : List Int) : Int := l.foldr (· + ·) 0
theorem sumI_cons (x : Int) (l : List Int) : sumI (x :: l) = x + sumI l := rfl
theorem sumI_app : ∀ (l k : List Int), sumI (l ++ k) = sumI l + sumI k
  | [], k => by simp [sumI]
  | x :: l, k => by rw [List.cons_append, sumI_cons, sumI_cons, sumI_app l k]; omega
def los (es : Es) : Int := sumI (es.map (·.1))
def his (es : Es) : Int := sumI (es.map (·.2))
def wds (es : Es) : List Int := es.map fun e => e.2 - e.1
def Fine (es : Es) : Prop := ∀ e ∈ es, e.1 ≤ e.2
theorem Fine.tail {e : Int × Int} {es : Es} (h : Fine (e :: es)) : Fine es := fun x hx => h x (List.mem_cons_of_mem _ hx)
theorem Fine.le : ∀ {es : Es}, Fine es → los es ≤ his es
  | [], _ => Int.le_refl _
  | e :: es, h => by
    have h1 := h e List.mem_cons_self
    have h2 := h.tail.le
    show e.1 + los es ≤ e.2 + his es
    omega
/-- what lies in the stretches -/
def lies : Es → List Int → Prop
  | [], xs => xs = []
  | e :: es, xs => ∃ x r, xs = x :: r ∧ e.1 ≤ x ∧ x ≤ e.2 ∧ lies es r
theorem mem_sols : ∀ {es : Es} {r : Int} {xs : List Int}, xs ∈ sols es r ↔ lies es xs ∧ sumI xs = r
  | [], r, xs => by
    unfold sols lies
    by_cases h : r = 0
    · rw [if_pos h, List.mem_singleton]
      constructor
      · rintro rfl; exact ⟨rfl, h.symm⟩
      · exact fun h => h.1
    · rw [if_neg h]
      constructor
      · intro z; cases z
      · rintro ⟨rfl, z⟩; exact absurd z.symm h
  | e :: es, r, xs => by
    unfold sols
    rw [List.mem_flatMap]
    constructor
    · rintro ⟨x, hx, hm⟩
      obtain ⟨ys, hy, rfl⟩ := List.mem_map.mp hm
      obtain ⟨h1, h2⟩ := mem_sols.mp hy
      obtain ⟨h3, h4⟩ := mem_upto.mp hx
      exact ⟨⟨x, ys, rfl, h3, h4, h1⟩, by rw [sumI_cons]; omega⟩
    · rintro ⟨⟨x, ys, rfl, h3, h4, h1⟩, h2⟩
      rw [sumI_cons] at h2
      exact ⟨x, mem_upto.mpr ⟨h3, h4⟩, List.mem_map.mpr ⟨ys, mem_sols.mpr ⟨h1, by omega⟩, rfl⟩⟩
theorem lies_sum : ∀ {es : Es} {xs : List Int}, lies es xs → los es ≤ sumI xs ∧ sumI xs ≤ his es
  | [], xs, h => by cases (show xs = [] from h); exact ⟨Int.le_refl _, Int.le_refl _⟩
  | e :: es, xs, h => by
    obtain ⟨x, r, rfl, h1, h2, h3⟩ := h
    obtain ⟨h4, h5⟩ := lies_sum h3
    show e.1 + los es ≤ x + sumI r ∧ x + sumI r ≤ e.2 + his es
    omega
theorem lies_fine : ∀ {es : Es} {xs : List Int}, lies es xs → Fine es
  | [], _, _ => fun _ h => nomatch h
  | e :: es, xs, h => by
    obtain ⟨x, r, rfl, h1, h2, h3⟩ := h
    intro y hy
    rcases List.mem_cons.mp hy with rfl | hy
    · omega
    · exact lies_fine h3 y hy
/-- the least first: as much as can be behind -/
def first : Es → Int → List Int
  | [], _ => []
  | e :: es, r => max e.1 (r - his es) :: first es (r - max e.1 (r - his es))
theorem first_ok : ∀ {es : Es} {r : Int}, Fine es → los es ≤ r → r ≤ his es → first es r ∈ sols es r
  | [], r, _, h1, h2 => by
    have : r = 0 := Int.le_antisymm h2 h1
    subst this
    exact List.mem_cons_self
  | e :: es, r, hf, h1, h2 => by
    have h1 : e.1 + los es ≤ r := h1
    have h2 : r ≤ e.2 + his es := h2
    have hl := hf.tail.le
    have he := hf e List.mem_cons_self
    have := first_ok (r := r - max e.1 (r - his es)) hf.tail (by omega) (by omega)
    unfold sols
    rw [List.mem_flatMap]
    exact ⟨_, mem_upto.mpr ⟨by omega, by omega⟩, List.mem_map.mpr ⟨_, this, rfl⟩⟩
theorem sols_nil {es : Es} {r : Int} (h : ¬ (Fine es ∧ los es ≤ r ∧ r ≤ his es)) : sols es r = [] := by
  cases q : sols es r with
  | nil => rfl
  | cons x l =>
    obtain ⟨h1, h2⟩ := mem_sols.mp (show x ∈ sols es r by rw [q]; exact List.mem_cons_self)
    obtain ⟨h3, h4⟩ := lies_sum h1
    exact absurd ⟨lies_fine h1, by omega, by omega⟩ h
theorem head_flat {α β : Type} : ∀ {l : List α} {f : α → List β} {a : α} {b : β} {p s : List α}, l = p ++ a :: s → (∀ x ∈ p, f x = []) → (f a).head? = some b → (l.flatMap f).head? = some b
  | _, f, a, b, [], s, rfl, _, h => by
    rw [List.nil_append, List.flatMap_cons]
    cases q : f a with
    | nil => rw [q] at h; cases h
    | cons y t => rw [q] at h; simpa using h
  | _, f, a, b, x :: p, s, rfl, hp, h => by
    rw [List.cons_append, List.flatMap_cons, hp x List.mem_cons_self, List.nil_append]
    exact head_flat rfl (fun y hy => hp y (List.mem_cons_of_mem _ hy)) h
theorem upto_split {lo hi x : Int} (h1 : lo ≤ x) (h2 : x ≤ hi) : upto lo hi = upto lo (x - 1) ++ x :: upto (x + 1) hi := by
  obtain ⟨n, e⟩ := Int.eq_ofNat_of_zero_le (by omega : 0 ≤ x - lo)
  induction n generalizing lo with
  | zero =>
    obtain rfl : x = lo := by omega
    rw [upto_nil (by omega : x - 1 < x), upto_cons h2]; rfl
  | succ n ih =>
    rw [upto_cons (by omega : lo ≤ hi), upto_cons (by omega : lo ≤ x - 1), List.cons_append]
    congr 1
    exact ih (by omega) (by omega)
theorem head_sols : ∀ {es : Es} {r : Int}, Fine es → los es ≤ r → r ≤ his es → (sols es r).head? = some (first es r)
  | [], r, _, h1, h2 => by
    have : r = 0 := Int.le_antisymm h2 h1
    subst this
    rfl
  | e :: es, r, hf, h1, h2 => by
    have h1 : e.1 + los es ≤ r := h1
    have h2 : r ≤ e.2 + his es := h2
    have hl := hf.tail.le
    have he := hf e List.mem_cons_self
    have ih := head_sols (r := r - max e.1 (r - his es)) hf.tail (by omega) (by omega)
    unfold sols first
    refine head_flat (upto_split (x := max e.1 (r - his es)) (by omega) (by omega)) (fun x hx => ?_) ?_
    · obtain ⟨q1, q2⟩ := mem_upto.mp hx
      rw [sols_nil (r := r - x) (fun z => by omega)]; rfl
    · rw [List.head?_map, ih]; rfl
/-! ### the number -/
theorem len_flat {α β : Type} (f : α → List β) : ∀ l : List α, ((l.flatMap f).length : Int) = sumI (l.map fun x => ((f x).length : Int))
  | [] => rfl
  | x :: l => by rw [List.flatMap_cons, List.length_append, List.map_cons, sumI_cons, ← len_flat f l]; omega
theorem sum_upto {f : Int → Int} (hf : Low f) {lo : Int} (r : Int) : ∀ {hi : Int}, lo ≤ hi + 1 → sumI ((upto lo hi).map fun x => f (r - x)) = cum f (r - lo) - cum f (r - hi - 1) := by
  intro hi h
  obtain ⟨n, e⟩ := Int.eq_ofNat_of_zero_le (by omega : 0 ≤ hi + 1 - lo)
  induction n generalizing lo with
  | zero =>
    rw [upto_nil (by omega)]
    rw [show r - lo = r - hi - 1 by omega]
    show (0 : Int) = _
    omega
  | succ n ih =>
    rw [upto_cons (by omega), List.map_cons, sumI_cons, ih (by omega) (by omega)]
    by_cases q : r - lo < 0
    · rw [hf _ q, cum_neg q, cum_neg (by omega : r - (lo + 1) < 0)]; omega
    · rw [cum_step (r := r - lo) (by omega), show r - lo - 1 = r - (lo + 1) by omega]; omega
theorem wds_pos {es : Es} (h : Fine es) : ∀ w ∈ wds es, 0 ≤ w := fun w hw => by
  obtain ⟨e, he, rfl⟩ := List.mem_map.mp hw
  have := h e he
  omega
theorem len_sols : ∀ {es : Es} {r : Int}, Fine es → ((sols es r).length : Int) = Nc (wds es) (r - los es)
  | [], r, _ => by
    show ((if r = 0 then [[]] else [] : List (List Int)).length : Int) = if r - 0 = 0 then 1 else 0
    by_cases h : r = 0
    · rw [if_pos h, if_pos (by omega)]; rfl
    · rw [if_neg h, if_neg (by omega)]; rfl
  | e :: es, r, hf => by
    have he := hf e List.mem_cons_self
    unfold sols
    rw [len_flat]
    have e1 : ((upto e.1 e.2).map fun x => (((sols es (r - x)).map (x :: ·)).length : Int)) = (upto e.1 e.2).map fun x => (fun y => Nc (wds es) (y - los es)) (r - x) := by
      refine List.map_congr_left fun x _ => ?_
      rw [List.length_map, len_sols hf.tail]
    rw [e1]
    have low : Low (Nc (wds es)) := Nc_low (wds_pos hf.tail)
    -- shift by los
    have e2 : ((upto e.1 e.2).map fun x => (fun y => Nc (wds es) (y - los es)) (r - x)) = (upto e.1 e.2).map fun x => Nc (wds es) ((r - los es) - x) := by
      refine List.map_congr_left fun x _ => ?_
      show Nc (wds es) (r - x - los es) = _
      rw [show r - x - los es = r - los es - x by omega]
    rw [e2, sum_upto low _ (by omega)]
    show _ = cum (Nc (wds es)) (r - (e.1 + los es)) - cum (Nc (wds es)) (r - (e.1 + los es) - (e.2 - e.1) - 1)
    rw [show r - los es - e.1 = r - (e.1 + los es) by omega, show r - los es - e.2 - 1 = r - (e.1 + los es) - (e.2 - e.1) - 1 by omega]
end Q70
set_option linter.all false
/-! Q70c: leaving out, binomials by steps, what each part can be, the first from behind. -/
namespace Q70
/-! ### leaving out, as a list of rests and signs -/
def rstep (rs : List (Int × Int)) (w : Int) : List (Int × Int) := rs ++ rs.map fun q => (q.1 - (w + 1), -q.2)
def rsum (f : Int → Int) (rs : List (Int × Int)) : Int := sumI (rs.map fun q => q.2 * f q.1)
theorem rsum_app (f : Int → Int) (a b : List (Int × Int)) : rsum f (a ++ b) = rsum f a + rsum f b := by
  unfold rsum
  rw [List.map_append, sumI_app]
theorem rsum_step (f : Int → Int) (w : Int) : ∀ rs : List (Int × Int), rsum f (rstep rs w) = rsum (fun r => f r - f (r - w - 1)) rs := fun rs => by
  unfold rstep
  rw [rsum_app]
  induction rs with
  | nil => rfl
  | cons q rs ih =>
    have e : ∀ (g : Int → Int) (q : Int × Int) (rs : List (Int × Int)), rsum g (q :: rs) = q.2 * g q.1 + rsum g rs := fun _ _ _ => rfl
    rw [List.map_cons, e, e, e, ← ih]
    show _ + _ + (-q.2 * f (q.1 - (w + 1)) + _) = q.2 * (f q.1 - f (q.1 - w - 1)) + _
    rw [Int.mul_sub, show q.1 - (w + 1) = q.1 - w - 1 by omega, Int.neg_mul]
    omega
theorem Ex_comm (f : Int → Int) (w : Int) : ∀ (ws : List Int) (r : Int), Ex (fun r => f r - f (r - w - 1)) ws r = Ex f ws r - Ex f ws (r - w - 1)
  | [], r => rfl
  | v :: ws, r => by
    show Ex _ ws r - Ex _ ws (r - v - 1) = (Ex f ws r - Ex f ws (r - v - 1)) - (Ex f ws (r - w - 1) - Ex f ws (r - w - 1 - v - 1))
    rw [Ex_comm f w ws r, Ex_comm f w ws (r - v - 1), show r - v - 1 - w - 1 = r - w - 1 - v - 1 by omega]
    omega
theorem rsum_fold : ∀ (ws : List Int) (f : Int → Int) (rs : List (Int × Int)), rsum f (ws.foldl rstep rs) = rsum (Ex f ws) rs
  | [], f, rs => rfl
  | w :: ws, f, rs => by
    rw [List.foldl_cons, rsum_fold ws f, rsum_step]
    rfl
theorem number_out {es : Es} {r : Int} (hf : Fine es) (f : Int → Int) (h : ∀ r, f r = cums one0 es.length r) : rsum f ((wds es).foldl rstep [(r - los es, 1)]) = ((sols es r).length : Int) := by
  rw [rsum_fold, len_sols hf]
  have e := Ex_eq (wds_pos hf) 0 (r - los es)
  have e2 : cums one0 (0 + (wds es).length) = f := by
    funext x
    rw [h, show 0 + (wds es).length = es.length by simp [wds]]
  rw [e2] at e
  show 1 * Ex f (wds es) (r - los es) + 0 = _
  rw [Int.one_mul, Int.add_zero]
  exact e.symm
/-! ### binomials by steps -/
def chStep (r : Int) (found place : Int) : Int := found * (r + place) / place
def places (n : Nat) : List Int := (List.range n).map fun k => 1 + (k : Nat)
theorem ch_fold {r : Int} (h : 0 ≤ r) : ∀ n : Nat, (places n).foldl (chStep r) 1 = Bn n r
  | 0 => (Bn_zero h).symm
  | n + 1 => by
    unfold places
    rw [List.range_succ, List.map_append, List.foldl_append]
    have ih := ch_fold h n
    unfold places at ih
    rw [ih]
    show Bn n r * (r + (1 + (n : Nat))) / (1 + (n : Nat)) = Bn (n + 1) r
    have e := Bn_mul n r h
    rw [show Bn n r * (r + (1 + ((n : Nat) : Int))) = (1 + ((n : Nat) : Int)) * Bn (n + 1) r by rw [show (1 + ((n : Nat) : Int)) = (n : Int) + 1 by omega, e, Int.mul_comm]; congr 1; omega]
    exact Int.mul_ediv_cancel_left _ (by omega)
def choices (n : Nat) (r : Int) : Int := if r < 0 then 0 else (places (n - 1)).foldl (chStep r) 1
theorem choices_eq {n : Nat} (hn : 1 ≤ n) (r : Int) : choices n r = cums one0 n r := by
  unfold choices
  by_cases h : r < 0
  · rw [if_pos h]
    obtain ⟨m, rfl⟩ : ∃ m, n = m + 1 := ⟨n - 1, by omega⟩
    exact (cum_low _ r h).symm
  · rw [if_neg h, ch_fold (by omega)]
    obtain ⟨m, rfl⟩ : ∃ m, n = m + 1 := ⟨n - 1, by omega⟩
    rfl
/-! ### what each part can be -/
theorem lies_get : ∀ {es : Es} {xs : List Int} {k : Nat} {e : Int × Int}, lies es xs → es[k]? = some e → ∃ x, xs[k]? = some x ∧ e.1 ≤ x ∧ x ≤ e.2 ∧ los es - e.1 ≤ sumI xs - x ∧ sumI xs - x ≤ his es - e.2
  | [], _, _, _, _, h => by simp at h
  | d :: es, xs, k, e, h, hk => by
    obtain ⟨x, r, rfl, h1, h2, h3⟩ := h
    have l : los (d :: es) = d.1 + los es := rfl
    have u : his (d :: es) = d.2 + his es := rfl
    cases k with
    | zero =>
      cases (show d = e by simpa using hk)
      obtain ⟨q1, q2⟩ := lies_sum h3
      exact ⟨x, rfl, h1, h2, by rw [sumI_cons]; omega, by rw [sumI_cons]; omega⟩
    | succ k =>
      obtain ⟨y, g1, g2, g3, g4, g5⟩ := lies_get h3 (show es[k]? = some e by simpa using hk)
      exact ⟨y, by simpa using g1, g2, g3, by rw [sumI_cons]; omega, by rw [sumI_cons]; omega⟩
theorem lies_put : ∀ {es : Es} {k : Nat} {e : Int × Int} {r v : Int}, Fine es → es[k]? = some e → e.1 ≤ v → v ≤ e.2 → los es - e.1 ≤ r - v → r - v ≤ his es - e.2 → ∃ xs, lies es xs ∧ sumI xs = r ∧ xs[k]? = some v
  | [], _, _, _, _, _, h, _, _, _, _ => by simp at h
  | d :: es, k, e, r, v, hf, hk, h1, h2, h3, h4 => by
    have l : los (d :: es) = d.1 + los es := rfl
    have u : his (d :: es) = d.2 + his es := rfl
    have hd := hf d List.mem_cons_self
    have hl := hf.tail.le
    cases k with
    | zero =>
      cases (show d = e by simpa using hk)
      obtain ⟨m1, m2⟩ := mem_sols.mp (first_ok (r := r - v) hf.tail (by omega) (by omega))
      exact ⟨v :: first es (r - v), ⟨v, _, rfl, h1, h2, m1⟩, by rw [sumI_cons]; omega, rfl⟩
    | succ k =>
      have hk' : es[k]? = some e := by simpa using hk
      -- the bounds of the others behind d
      have he := hf.tail e (List.mem_of_getElem? hk')
      have le1 : los es - e.1 ≤ his es - e.2 := by
        obtain ⟨m1, _⟩ := mem_sols.mp (first_ok (r := los es) hf.tail (Int.le_refl _) hf.tail.le)
        obtain ⟨x, _, q1, q2, q3, q4⟩ := lies_get m1 hk'
        omega
      obtain ⟨x, hx1, hx2, hx3, hx4⟩ : ∃ x, d.1 ≤ x ∧ x ≤ d.2 ∧ los es - e.1 ≤ r - x - v ∧ r - x - v ≤ his es - e.2 := by
        by_cases q : r - d.1 - v ≤ his es - e.2
        · exact ⟨d.1, Int.le_refl _, hd, by omega, q⟩
        · exact ⟨r - v - (his es - e.2), by omega, by omega, by omega, by omega⟩
      obtain ⟨ys, y1, y2, y3⟩ := lies_put (r := r - x) hf.tail hk' h1 h2 (by omega) (by omega)
      exact ⟨x :: ys, ⟨x, ys, rfl, hx1, hx2, y1⟩, by rw [sumI_cons]; omega, by simpa using y3⟩
/-! ### the first, from behind -/
/-- the parts above lo, and what is left -/
def back : Es → Int → List Int × Int
  | [], m => ([], m)
  | e :: es, m => let q := back es m; ((e.1 + min q.2 (e.2 - e.1)) :: q.1, q.2 - min q.2 (e.2 - e.1))
theorem back_rest : ∀ {es : Es} {m : Int}, Fine es → 0 ≤ m → (back es m).2 = max 0 (m - (his es - los es))
  | [], m, _, h => by
    show m = max 0 (m - (0 - 0))
    omega
  | e :: es, m, hf, h => by
    have he := hf e List.mem_cons_self
    have hl := hf.tail.le
    have ih := back_rest (m := m) hf.tail h
    show (back es m).2 - min (back es m).2 (e.2 - e.1) = max 0 (m - ((e.2 + his es) - (e.1 + los es)))
    rw [ih]
    omega
theorem back_first : ∀ {es : Es} {r : Int}, Fine es → los es ≤ r → r ≤ his es → (back es (r - los es)).1 = first es r
  | [], _, _, _, _ => rfl
  | e :: es, r, hf, h1, h2 => by
    have h1 : e.1 + los es ≤ r := h1
    have h2 : r ≤ e.2 + his es := h2
    have he := hf e List.mem_cons_self
    have hl := hf.tail.le
    have hr := back_rest (es := es) (m := r - (e.1 + los es)) hf.tail (by omega)
    -- the rest of the list does not hang on what is left over
    have key : ∀ {es : Es} {m m' : Int}, Fine es → his es - los es ≤ m → his es - los es ≤ m' → (back es m).1 = (back es m').1 := fun {es} => by
      induction es with
      | nil => intros; rfl
      | cons d es ih =>
        intro m m' hf a b
        have hd := hf d List.mem_cons_self
        have hl := hf.tail.le
        have l : los (d :: es) = d.1 + los es := rfl
        have u : his (d :: es) = d.2 + his es := rfl
        have r1 := back_rest (es := es) (m := m) hf.tail (by omega)
        have r2 := back_rest (es := es) (m := m') hf.tail (by omega)
        show (d.1 + min (back es m).2 (d.2 - d.1)) :: (back es m).1 = (d.1 + min (back es m').2 (d.2 - d.1)) :: (back es m').1
        rw [ih hf.tail (m := m) (m' := m') (by omega) (by omega), r1, r2]
        congr 1
        omega
    show (e.1 + min (back es (r - (e.1 + los es))).2 (e.2 - e.1)) :: (back es (r - (e.1 + los es))).1 = max e.1 (r - his es) :: first es (r - max e.1 (r - his es))
    rw [hr]
    congr 1
    · omega
    · by_cases q : r - his es ≤ e.1
      · rw [show max e.1 (r - his es) = e.1 by omega, ← back_first (r := r - e.1) hf.tail (by omega) (by omega), show r - e.1 - los es = r - (e.1 + los es) by omega]
      · rw [show max e.1 (r - his es) = r - his es by omega, ← back_first (r := r - (r - his es)) hf.tail (by omega) (by omega)]
        exact key hf.tail (by omega) (by omega)
end Q70
set_option linter.all false
/-! Q70d: ways by sums, trying all, the nearest share. -/
namespace Q70
/-! ### ways, part by part -/
def op (f : Int → Int) (w : Int) : Int → Int := fun r => cum f r - cum f (r - w - 1)
theorem op_low {f : Int → Int} {w : Int} (h : 0 ≤ w) : Low (op f w) := fun r hr => by
  unfold op
  rw [cum_neg hr, cum_neg (by omega)]; rfl
theorem cum_op {f : Int → Int} {w : Int} (h : 0 ≤ w) (r : Int) : cum (op f w) r = cum (cum f) r - cum (cum f) (r - w - 1) := by
  have e : op f w = fun x => cum f x - (fun y => cum f (y - (w + 1))) x := by
    funext x
    show cum f x - cum f (x - w - 1) = cum f x - cum f (x - (w + 1))
    rw [show x - (w + 1) = x - w - 1 by omega]
  rw [e, cum_sub, cum_shift (f := cum f) (cum_low f) (by omega), show r - (w + 1) = r - w - 1 by omega]
theorem op_comm {f : Int → Int} {v w : Int} (hv : 0 ≤ v) (hw : 0 ≤ w) : op (op f v) w = op (op f w) v := by
  funext r
  show cum (op f v) r - cum (op f v) (r - w - 1) = cum (op f w) r - cum (op f w) (r - v - 1)
  rw [cum_op hv, cum_op hv, cum_op hw, cum_op hw, show r - w - 1 - v - 1 = r - v - 1 - w - 1 by omega]
  omega
theorem fold_op {w : Int} (hw : 0 ≤ w) : ∀ (ws : List Int) (f : Int → Int), (∀ v ∈ ws, 0 ≤ v) → ws.foldl op (op f w) = op (ws.foldl op f) w
  | [], _, _ => rfl
  | v :: ws, f, h => by
    rw [List.foldl_cons, List.foldl_cons, op_comm hw (h v List.mem_cons_self), fold_op hw ws _ fun u hu => h u (List.mem_cons_of_mem _ hu)]
theorem ways_Nc : ∀ {ws : List Int}, (∀ v ∈ ws, 0 ≤ v) → ws.foldl op one0 = Nc ws
  | [], _ => rfl
  | w :: ws, h => by
    rw [List.foldl_cons, fold_op (h w List.mem_cons_self) ws _ fun u hu => h u (List.mem_cons_of_mem _ hu), ways_Nc fun u hu => h u (List.mem_cons_of_mem _ hu)]
    rfl
/-- a row of numbers: the function at 0 .. n -/
def row (f : Int → Int) (n : Nat) : List Int := (List.range n).map fun k => f (k : Nat)
/-- the sums ahead of each place -/
def sumsOf (l : List Int) : List Int := l.foldl (fun s x => s ++ [s.getLast?.getD 0 + x]) [0]
theorem sums_row (f : Int → Int) : ∀ n : Nat, sumsOf (row f n) = row (fun k => cum f (k - 1)) (n + 1)
  | 0 => by
    show [0] = [cum f (((0 : Nat) : Int) - 1)]
    rw [cum_neg (by omega)]
  | n + 1 => by
    have ih := sums_row f n
    unfold sumsOf at ih ⊢
    unfold row at ih ⊢
    rw [List.range_succ, List.map_append, List.foldl_append, ih]
    show _ ++ [_] = _
    rw [List.range_succ (n := n + 1), List.map_append]
    congr 1
    show [_] = [cum f (((n + 1 : Nat) : Int) - 1)]
    congr 1
    rw [List.range_succ (n := n), List.map_append]
    show (((List.range n).map fun k => cum f (((k : Nat) : Int) - 1)) ++ [cum f ((n : Nat) - 1)]).getLast?.getD 0 + f (n : Nat) = _
    rw [List.getLast?_append]
    show cum f ((n : Nat) - 1) + f (n : Nat) = _
    rw [cum_step (r := ((n + 1 : Nat) : Int) - 1) (by omega), show ((n + 1 : Nat) : Int) - 1 = (n : Nat) by omega]
/-! ### trying all -/
def ext (r : Int) (own : List Int) : List (List Int) := (upto 0 (r - sumI own)).map fun one => own ++ [one]
def tries (r : Int) : Nat → List (List Int)
  | 0 => [[]]
  | n + 1 => (tries r n).flatMap (ext r)
def fin (r : Int) (own : List Int) : List Int := own ++ [r - sumI own]
/-- by the first part -/
def byF : Nat → Int → List (List Int)
  | 0, _ => [[]]
  | n + 1, r => (upto 0 r).flatMap fun x => (byF n (r - x)).map (x :: ·)
theorem byF_ext : ∀ (n : Nat) (r : Int), (byF n r).flatMap (ext r) = byF (n + 1) r
  | 0, r => by
    show ext r [] ++ [] = (upto 0 r).flatMap fun x => [[x]]
    unfold ext
    rw [List.append_nil, show sumI [] = 0 from rfl, Int.sub_zero]
    show (upto 0 r).map (fun one => [one]) = _
    generalize upto 0 r = l
    induction l with
    | nil => rfl
    | cons x l ih => rw [List.map_cons, List.flatMap_cons, ih]; rfl
  | n + 1, r => by
    show ((upto 0 r).flatMap fun x => (byF n (r - x)).map (x :: ·)).flatMap (ext r) = (upto 0 r).flatMap fun x => (byF (n + 1) (r - x)).map (x :: ·)
    rw [List.flatMap_assoc]
    congr 1
    funext x
    rw [← byF_ext n (r - x), List.map_flatMap, List.flatMap_map]
    congr 1
    funext own
    unfold ext
    rw [List.map_map, sumI_cons, show r - (x + sumI own) = r - x - sumI own by omega]
    rfl
theorem tries_eq (r : Int) : ∀ n : Nat, tries r n = byF n r
  | 0 => rfl
  | n + 1 => by
    show (tries r n).flatMap (ext r) = _
    rw [tries_eq r n, byF_ext]
theorem upto_app {a m b : Int} (h1 : a ≤ m) (h2 : m ≤ b + 1) : upto a b = upto a (m - 1) ++ upto m b := by
  obtain ⟨n, e⟩ := Int.eq_ofNat_of_zero_le (by omega : 0 ≤ m - a)
  induction n generalizing a with
  | zero =>
    obtain rfl : m = a := by omega
    rw [upto_nil (by omega : m - 1 < m)]; rfl
  | succ n ih =>
    rw [upto_cons (by omega : a ≤ b), upto_cons (by omega : a ≤ m - 1), List.cons_append]
    congr 1
    exact ih (by omega) (by omega)
theorem flat_nil {β : Type} {g : Int → List β} {l : List Int} (h : ∀ x ∈ l, g x = []) : l.flatMap g = [] := by
  induction l with
  | nil => rfl
  | cons x l ih => rw [List.flatMap_cons, h x List.mem_cons_self, ih fun y hy => h y (List.mem_cons_of_mem _ hy)]; rfl
theorem flat_grow {β : Type} {g : Int → List β} {a b L U : Int} (h : ∀ x, L ≤ x → x ≤ U → (x < a ∨ b < x) → g x = []) (h1 : L ≤ a) (h2 : b ≤ U) (h3 : a ≤ b + 1) : (upto L U).flatMap g = (upto a b).flatMap g := by
  rw [upto_app (m := a) (a := L) (b := U) h1 (by omega), upto_app (m := b + 1) (a := a) (b := U) h3 (by omega), List.flatMap_append, List.flatMap_append]
  rw [flat_nil (l := upto L (a - 1)) fun x hx => h x (mem_upto.mp hx).1 (by have := (mem_upto.mp hx).2; omega) (.inl (by have := (mem_upto.mp hx).2; omega))]
  rw [flat_nil (l := upto (b + 1) U) fun x hx => h x (by have := (mem_upto.mp hx).1; omega) (mem_upto.mp hx).2 (.inr (by have := (mem_upto.mp hx).1; omega))]
  rw [show b + 1 - 1 = b by omega, List.nil_append, List.append_nil]
theorem flat_eq {β : Type} {g : Int → List β} {a b c d : Int} (h : ∀ x, (x < a ∨ b < x ∨ x < c ∨ d < x) → g x = []) : (upto a b).flatMap g = (upto c d).flatMap g := by
  by_cases h1 : a ≤ b + 1
  · by_cases h2 : c ≤ d + 1
    · rw [← flat_grow (L := min a c) (U := max b d) (g := g) (a := a) (b := b) (fun x _ _ z => h x (by omega)) (by omega) (by omega) h1]
      exact flat_grow (fun x _ _ z => h x (by omega)) (by omega) (by omega) h2
    · rw [upto_nil (by omega : d < c)]
      exact flat_nil fun x hx => h x (by omega)
  · rw [upto_nil (by omega : b < a)]
    exact (flat_nil fun x hx => h x (by omega)).symm
/-- whether the parts lie in the stretches -/
def liesB : Es → List Int → Bool
  | [], xs => xs.isEmpty
  | e :: es, xs => match xs with
    | [] => false
    | x :: r => decide (e.1 ≤ x ∧ x ≤ e.2) && liesB es r
theorem los_pos : ∀ {es : Es}, (∀ e ∈ es, 0 ≤ e.1) → 0 ≤ los es
  | [], _ => Int.le_refl _
  | e :: es, h => by
    have h1 := h e List.mem_cons_self
    have h2 := los_pos fun x hx => h x (List.mem_cons_of_mem _ hx)
    show 0 ≤ e.1 + los es
    omega
theorem filter_flat {α β : Type} (p : β → Bool) (f : α → List β) (l : List α) : (l.flatMap f).filter p = l.flatMap fun x => (f x).filter p := by
  induction l with
  | nil => rfl
  | cons x l ih => rw [List.flatMap_cons, List.filter_append, ih, List.flatMap_cons]
theorem filter_cons {e : Int × Int} {es : Es} {x : Int} : ∀ l : List (List Int), (l.map (x :: ·)).filter (liesB (e :: es)) = if e.1 ≤ x ∧ x ≤ e.2 then (l.filter (liesB es)).map (x :: ·) else []
  | [] => by rw [List.map_nil, List.filter_nil]; split <;> rfl
  | y :: l => by
    rw [List.map_cons, List.filter_cons, filter_cons l]
    show (if (decide (e.1 ≤ x ∧ x ≤ e.2) && liesB es y) = true then _ else _) = _
    by_cases h : e.1 ≤ x ∧ x ≤ e.2
    · rw [decide_eq_true h, if_pos h, if_pos h, Bool.true_and, List.filter_cons]
      split <;> rfl
    · rw [decide_eq_false h, if_neg h, if_neg h, Bool.false_and]; rfl
theorem tried_sols : ∀ {es : Es} {e : Int × Int} {r : Int}, (∀ d ∈ e :: es, 0 ≤ d.1) → ((byF es.length r).map (fin r)).filter (liesB (e :: es)) = sols (e :: es) r
  | [], e, r, h => by
    have h0 := h e List.mem_cons_self
    show ([[r - 0]] : List (List Int)).filter (liesB [e]) = (upto e.1 e.2).flatMap fun x => (sols [] (r - x)).map (x :: ·)
    rw [Int.sub_zero]
    by_cases q : e.1 ≤ r ∧ r ≤ e.2
    · rw [flat_eq (c := r) (d := r) (g := fun x => (sols [] (r - x)).map (x :: ·)) fun x hx => by
        show (if r - x = 0 then [[]] else [] : List (List Int)).map _ = []
        rw [if_neg (by omega)]; rfl]
      rw [upto_cons (Int.le_refl r), upto_nil (by omega : r < r + 1), List.filter_cons]
      have e1 : liesB [e] [r] = true := by
        show (decide (e.1 ≤ r ∧ r ≤ e.2) && true) = true
        rw [decide_eq_true q]; rfl
      rw [if_pos e1]
      show [[r]] = (if r - r = 0 then [[]] else [] : List (List Int)).map (r :: ·) ++ []
      rw [if_pos (by omega)]; rfl
    · rw [flat_nil fun x hx => by
        obtain ⟨q1, q2⟩ := mem_upto.mp hx
        show (if r - x = 0 then [[]] else [] : List (List Int)).map _ = []
        rw [if_neg (by omega)]; rfl]
      have e1 : liesB [e] [r] = false := by
        show (decide (e.1 ≤ r ∧ r ≤ e.2) && true) = false
        rw [decide_eq_false q]; rfl
      rw [List.filter_cons, if_neg (by rw [e1]; exact fun z => nomatch z)]
      rfl
  | d :: es, e, r, h => by
    have h0 := h e List.mem_cons_self
    have ht : ∀ x ∈ d :: es, 0 ≤ x.1 := fun x hx => h x (List.mem_cons_of_mem _ hx)
    show (((upto 0 r).flatMap fun x => (byF es.length (r - x)).map (x :: ·)).map (fin r)).filter _ = (upto e.1 e.2).flatMap fun x => (sols (d :: es) (r - x)).map (x :: ·)
    rw [List.map_flatMap, filter_flat]
    have e1 : (fun x => (((byF es.length (r - x)).map (x :: ·)).map (fin r)).filter (liesB (e :: d :: es))) = fun x => if e.1 ≤ x ∧ x ≤ e.2 then (sols (d :: es) (r - x)).map (x :: ·) else [] := by
      funext x
      have e2 : ((byF es.length (r - x)).map (x :: ·)).map (fin r) = ((byF es.length (r - x)).map (fin (r - x))).map (x :: ·) := by
        rw [List.map_map, List.map_map]
        refine List.map_congr_left fun own _ => ?_
        show (x :: own) ++ [r - sumI (x :: own)] = x :: (own ++ [r - x - sumI own])
        rw [sumI_cons, show r - (x + sumI own) = r - x - sumI own by omega]; rfl
      rw [e2, filter_cons, tried_sols ht]
    rw [e1]
    have e3 : ((upto e.1 e.2).flatMap fun x => (sols (d :: es) (r - x)).map (x :: ·)) = (upto e.1 e.2).flatMap fun x => if e.1 ≤ x ∧ x ≤ e.2 then (sols (d :: es) (r - x)).map (x :: ·) else [] := by
      have : ∀ l : List Int, (∀ x ∈ l, e.1 ≤ x ∧ x ≤ e.2) → (l.flatMap fun x => (sols (d :: es) (r - x)).map (x :: ·)) = l.flatMap fun x => if e.1 ≤ x ∧ x ≤ e.2 then (sols (d :: es) (r - x)).map (x :: ·) else [] := fun l => by
        induction l with
        | nil => intro _; rfl
        | cons x l ih =>
          intro hl
          rw [List.flatMap_cons, List.flatMap_cons, ih fun y hy => hl y (List.mem_cons_of_mem _ hy), if_pos (hl x List.mem_cons_self)]
      exact this _ fun x hx => mem_upto.mp hx
    rw [e3]
    refine flat_eq fun x hx => ?_
    by_cases q : e.1 ≤ x ∧ x ≤ e.2
    · rw [if_pos q]
      have := los_pos ht
      rw [sols_nil fun z => by omega]; rfl
    · rw [if_neg q]
/-! ### the nearest share -/
def near (u one p : Int) : Int := (2 * u * one + p) / (2 * p)
def ends (u p s : Int) : Int × Int := (if 0 < s then -(((1 - 2 * s) * p) / (2 * u)) else 0, min p (((2 * s + 1) * p - 1) / (2 * u)))
theorem div_le {a b c : Int} (h : 0 < c) : a / c ≤ b ↔ a < c * (b + 1) := by
  have := Int.ediv_lt_iff_lt_mul h (a := a) (b := b + 1)
  rw [Int.mul_comm] at this
  constructor
  · intro q; exact this.mp (by omega)
  · intro q; have := this.mpr q; omega
theorem le_div {a b c : Int} (h : 0 < c) : b ≤ a / c ↔ c * b ≤ a := by
  rw [Int.le_ediv_iff_mul_le h, Int.mul_comm]
theorem near_iff {u one p s : Int} (hu : 0 < u) (hp : 0 < p) (h0 : 0 ≤ one) (h1 : one ≤ p) (hs : 0 ≤ s) : near u one p = s ↔ (ends u p s).1 ≤ one ∧ one ≤ (ends u p s).2 := by
  have a1 : near u one p = s ↔ (2 * p) * s ≤ 2 * u * one + p ∧ 2 * u * one + p < (2 * p) * (s + 1) := by
    unfold near
    rw [← le_div (by omega : 0 < 2 * p), ← div_le (by omega : 0 < 2 * p)]
    omega
  rw [a1]
  have m1 : 2 * p * s = 2 * (s * p) := by rw [Int.mul_assoc, Int.mul_comm p s]
  have m2 : 2 * p * (s + 1) = 2 * (s * p) + 2 * p := by rw [Int.mul_add, m1]; omega
  have m3 : (1 - 2 * s) * p = p - 2 * (s * p) := by rw [Int.sub_mul, Int.mul_assoc]; omega
  have m4 : (2 * s + 1) * p = 2 * (s * p) + p := by rw [Int.add_mul, Int.mul_assoc]; omega
  have m5 : 2 * u * one = 2 * (u * one) := by rw [Int.mul_assoc]
  rw [m1, m2, m5]
  show _ ↔ (if 0 < s then -(((1 - 2 * s) * p) / (2 * u)) else 0) ≤ one ∧ one ≤ min p (((2 * s + 1) * p - 1) / (2 * u))
  rw [m3, m4]
  have b2 : one ≤ min p ((2 * (s * p) + p - 1) / (2 * u)) ↔ 2 * (u * one) ≤ 2 * (s * p) + p - 1 := by
    rw [← m5, ← le_div (by omega : 0 < 2 * u)]
    omega
  rw [b2]
  by_cases q : 0 < s
  · rw [if_pos q]
    have b1 : -((p - 2 * (s * p)) / (2 * u)) ≤ one ↔ 2 * (s * p) - p ≤ 2 * (u * one) := by
      have := le_div (a := p - 2 * (s * p)) (b := -one) (c := 2 * u) (by omega)
      rw [Int.mul_neg, m5] at this
      omega
    rw [b1]
    omega
  · rw [if_neg q]
    obtain rfl : s = 0 := by omega
    have n1 : 0 ≤ u * one := Int.mul_nonneg (by omega) h0
    simp only [Int.zero_mul, Int.mul_zero]
    omega
end Q70
set_option Elab.async false
set_option linter.all false
set_option maxRecDepth 100000
set_option maxHeartbeats 4000000
/-! Wp: mirrors are run by simp: what holds behind a run. -/
namespace Mir
open PySem L2 PySem.Spec PyProof.Rows
/-- behind a run that ends well -/
def wp {α : Type} (r : Res α) (Q : α → List Int → Prop) : Prop := match r with
  | .ok a j => Q a j
  | _ => False
theorem wp_congr {α : Type} {r r' : Res α} {Q : α → List Int → Prop} (h : r = r') : wp r Q = wp r' Q := by rw [h]
theorem wp_mono {α : Type} {r : Res α} {P Q : α → List Int → Prop} (h : wp r P) (hq : ∀ a j, P a j → Q a j) : wp r Q := by
  cases r with
  | ok a j => exact hq a j h
  | exc k g j => exact h
  | stk => exact h
theorem wp_eq {α : Type} {r : Res α} {a : α} {j : List Int} : wp r (fun b k => b = a ∧ k = j) ↔ r = .ok a j := by
  cases r with
  | ok b k => show (b = a ∧ k = j) ↔ _; constructor; · rintro ⟨rfl, rfl⟩; rfl
              · intro h; cases h; exact ⟨rfl, rfl⟩
  | exc k g j => exact ⟨fun h => h.elim, fun h => by cases h⟩
  | stk => exact ⟨fun h => h.elim, fun h => by cases h⟩
theorem of_wp {α : Type} {r : Res α} {a : α} {j : List Int} (h : wp r fun b k => b = a ∧ k = j) : r = .ok a j := wp_eq.mp h
theorem wp_of {α : Type} {r : Res α} {Q : α → List Int → Prop} {a : α} {j : List Int} (h : r = .ok a j) (q : Q a j) : wp r Q := by rw [h]; exact q
theorem wp_ex {α : Type} {r : Res α} {Q : α → List Int → Prop} (h : wp r Q) : ∃ a j, r = .ok a j ∧ Q a j := by
  cases r with
  | ok a j => exact ⟨a, j, rfl, h⟩
  | exc k g j => exact h.elim
  | stk => exact h.elim
section
variable {α β : Type} {Q : α → List Int → Prop} {j : List Int} {ρ : Mir.Env}
@[simp ↓] theorem wp_ok {a : α} : wp (.ok a j) Q = Q a j := rfl
@[simp ↓] theorem wp_ret {a : α} : wp (ret a j) Q = Q a j := rfl
@[simp ↓] theorem wp_stuck : wp (stuck j) Q = False := rfl
@[simp ↓] theorem wp_bnd {m : M β} {f : β → M α} : wp (bnd m f j) Q = wp (m j) fun a j' => wp (f a j') Q := by
  unfold bnd; cases m j <;> rfl
@[simp ↓] theorem wp_nox {m : M α} : wp (nox m j) Q = wp (m j) Q := by
  unfold nox; cases m j <;> rfl
@[simp ↓] theorem wp_need {c : Prop} [Decidable c] {m : M α} : wp (need c m j) Q = (c ∧ wp (m j) Q) := by
  unfold need
  by_cases h : c
  · rw [if_pos h]; exact propext ⟨fun z => ⟨h, z⟩, fun z => z.2⟩
  · rw [if_neg h]; exact propext ⟨fun z => z.elim, fun z => h z.1⟩
@[simp ↓] theorem wp_ite {c : Prop} [Decidable c] {a b : M α} : wp ((if c then a else b) j) Q = if c then wp (a j) Q else wp (b j) Q := by
  by_cases h : c
  · rw [if_pos h, if_pos h]
  · rw [if_neg h, if_neg h]
end
section
variable {j : List Int} {ρ : Mir.Env} {Q : D → List Int → Prop} {S : Fl → List Int → Prop} {T : Bool → List Int → Prop} {A : List D → List Int → Prop} {G : Mir.Env → List Int → Prop} {I : Option Int → List Int → Prop}
/-! ### expressions -/
@[simp ↓] theorem wp_var {m : Md} {i : Nat} : wp (mVar m i ρ j) Q = match slVal m ρ[i]? with
  | some d => Q d j
  | none => False := by
  unfold mVar
  cases slVal m ρ[i]? <;> rfl
@[simp ↓] theorem wp_C {d : D} : wp (mC d ρ j) Q = Q d j := rfl
@[simp ↓] theorem wp_bin {f : D → D → M D} {ma mb : Mir.Env → M D} : wp (mBin f ma mb ρ j) Q = wp (ma ρ j) fun x j1 => wp (mb ρ j1) fun y j2 => wp (f x y j2) Q := by
  unfold mBin; simp only [wp_bnd]
@[simp ↓] theorem wp_un {f : D → M D} {ma : Mir.Env → M D} : wp (mUn f ma ρ j) Q = wp (ma ρ j) fun x j1 => wp (f x j1) Q := by
  unfold mUn; simp only [wp_bnd]
@[simp ↓] theorem wp_nil : wp (mNil ρ j) A = A [] j := rfl
@[simp ↓] theorem wp_cons {me : Mir.Env → M D} {ml : Mir.Env → M (List D)} : wp (mCons me ml ρ j) A = wp (me ρ j) fun x j1 => wp (ml ρ j1) fun xs j2 => A (x :: xs) j2 := by
  unfold mCons; simp only [wp_bnd, wp_ret]
@[simp ↓] theorem wp_tup {ml : Mir.Env → M (List D)} : wp (mTup ml ρ j) Q = wp (ml ρ j) fun ds j1 => ds.length ≤ 16777216 ∧ Q (.tup ds) j1 := by
  unfold mTup; simp only [wp_bnd, wp_ret, wp_need]
@[simp ↓] theorem wp_lst {ml : Mir.Env → M (List D)} : wp (mLst ml ρ j) Q = wp (ml ρ j) fun ds j1 => ds.length ≤ 16777216 ∧ Q (.lst ds) j1 := by
  unfold mLst; simp only [wp_bnd, wp_ret, wp_need]
@[simp ↓] theorem wp_star {me : Mir.Env → M D} {ml : Mir.Env → M (List D)} : wp (mStar me ml ρ j) A = wp (me ρ j) fun x j1 => match x with
  | .lst ds => wp (ml ρ j1) fun xs j2 => A (ds ++ xs) j2
  | .tup ds => wp (ml ρ j1) fun xs j2 => A (ds ++ xs) j2
  | _ => False := by
  unfold mStar
  simp only [wp_bnd]
  congr 1
  funext x j1
  cases x <;> simp only [wp_bnd, wp_ret, wp_stuck]
@[simp ↓] theorem wp_dict0 : wp (mDict0 ρ j) Q = Q (.dK [] []) j := rfl
@[simp ↓] theorem wp_tru {me : Mir.Env → M D} : wp (mTru me ρ j) T = wp (me ρ j) fun x j1 => wp (dTru x j1) T := by
  unfold mTru; simp only [wp_bnd]
@[simp ↓] theorem wp_truB {b : Bool} : wp (dTru (.bl b) j) T = T b j := rfl
@[simp ↓] theorem wp_truI {i : Int} : wp (dTru (.int i) j) T = T (i != 0) j := rfl
@[simp ↓] theorem wp_truN : wp (dTru .non j) T = T false j := rfl
@[simp ↓] theorem wp_truL {ds : List D} : wp (dTru (.lst ds) j) T = T (!ds.isEmpty) j := rfl
@[simp ↓] theorem wp_truT {ds : List D} : wp (dTru (.tup ds) j) T = T (!ds.isEmpty) j := rfl
@[simp ↓] theorem wp_asB {me : Mir.Env → M D} : wp (mAsB me ρ j) T = wp (me ρ j) fun x j1 => match x with
  | .bl b => T b j1
  | _ => False := by
  unfold mAsB
  simp only [wp_bnd]
  congr 1
  funext x j1
  cases x <;> rfl
@[simp ↓] theorem wp_not {mt : Mir.Env → M Bool} : wp (mNot mt ρ j) T = wp (mt ρ j) fun b j1 => T (!b) j1 := by
  unfold mNot; simp only [wp_bnd, wp_ret]
@[simp ↓] theorem wp_and {mt mu : Mir.Env → M Bool} : wp (mAnd mt mu ρ j) T = wp (mt ρ j) fun b j1 => if b = true then wp (mu ρ j1) T else T false j1 := by
  unfold mAnd; simp only [wp_bnd, wp_ret, wp_ite]
@[simp ↓] theorem wp_or {mt mu : Mir.Env → M Bool} : wp (mOr mt mu ρ j) T = wp (mt ρ j) fun b j1 => if b = true then T true j1 else wp (mu ρ j1) T := by
  unfold mOr; simp only [wp_bnd, wp_ret, wp_ite]
@[simp ↓] theorem wp_andV {ma mb : Mir.Env → M D} : wp (mAndV ma mb ρ j) Q = wp (ma ρ j) fun x j1 => match x with
  | .bl b => if b = true then wp (mb ρ j1) Q else Q (.bl false) j1
  | _ => False := by
  unfold mAndV
  simp only [wp_bnd]
  congr 1
  funext x j1
  cases x <;> simp only [wp_ite, wp_ret, wp_stuck]
@[simp ↓] theorem wp_orV {ma mb : Mir.Env → M D} : wp (mOrV ma mb ρ j) Q = wp (ma ρ j) fun x j1 => match x with
  | .bl b => if b = true then Q (.bl true) j1 else wp (mb ρ j1) Q
  | _ => False := by
  unfold mOrV
  simp only [wp_bnd]
  congr 1
  funext x j1
  cases x <;> simp only [wp_ite, wp_ret, wp_stuck]
@[simp ↓] theorem wp_notV {ma : Mir.Env → M D} : wp (mNotV ma ρ j) Q = wp (ma ρ j) fun x j1 => match x with
  | .bl b => Q (.bl (!b)) j1
  | _ => False := by
  unfold mNotV
  simp only [wp_bnd]
  congr 1
  funext x j1
  cases x <;> rfl
@[simp ↓] theorem wp_ifE {mt : Mir.Env → M Bool} {ma mb : Mir.Env → M D} : wp (mIfE mt ma mb ρ j) Q = wp (mt ρ j) fun b j1 => if b = true then wp (ma ρ j1) Q else wp (mb ρ j1) Q := by
  unfold mIfE; simp only [wp_bnd, wp_ite]
@[simp ↓] theorem wp_isN {ma : Mir.Env → M D} : wp (mIsN ma ρ j) Q = wp (ma ρ j) fun x j1 => Q (.bl (isNon x)) j1 := by
  unfold mIsN; simp only [wp_bnd, wp_ret]
@[simp ↓] theorem wp_notN {ma : Mir.Env → M D} : wp (mNotN ma ρ j) Q = wp (ma ρ j) fun x j1 => Q (.bl (!isNon x)) j1 := by
  unfold mNotN; simp only [wp_bnd, wp_ret]
@[simp ↓] theorem wp_tisN {ma : Mir.Env → M D} : wp (mTIsN ma ρ j) T = wp (ma ρ j) fun x j1 => T (isNon x) j1 := by
  unfold mTIsN; simp only [wp_bnd, wp_ret]
@[simp ↓] theorem wp_tnotN {ma : Mir.Env → M D} : wp (mTNotN ma ρ j) T = wp (ma ρ j) fun x j1 => T (!isNon x) j1 := by
  unfold mTNotN; simp only [wp_bnd, wp_ret]
@[simp ↓] theorem wp_chain {f g : D → D → M D} {ma mb mc : Mir.Env → M D} : wp (mChain f g ma mb mc ρ j) Q = wp (ma ρ j) fun x j1 => wp (mb ρ j1) fun y j2 => wp (f x y j2) fun z j3 => match z with
  | .bl b => if b = true then wp (mc ρ j3) fun u j4 => wp (g y u j4) Q else Q (.bl false) j3
  | _ => False := by
  unfold mChain
  simp only [wp_bnd]
  congr 1
  funext x j1
  congr 1
  funext y j2
  congr 1
  funext z j3
  cases z <;> try rfl
  rename_i b
  cases b <;> simp only [wp_bnd, wp_ret, if_true, if_false, Bool.false_eq_true]
@[simp ↓] theorem wp_chain3 {f g h : D → D → M D} {ma mb mc md : Mir.Env → M D} : wp (mChain3 f g h ma mb mc md ρ j) Q = wp (ma ρ j) fun x j1 => wp (mb ρ j1) fun y j2 => wp (f x y j2) fun z j3 => match z with
  | .bl b => if b = true then wp (mc ρ j3) fun u j4 => wp (g y u j4) fun z j5 => match z with
      | .bl b => if b = true then wp (md ρ j5) fun t j6 => wp (h u t j6) Q else Q (.bl false) j5
      | _ => False
    else Q (.bl false) j3
  | _ => False := by
  unfold mChain3
  simp only [wp_bnd]
  congr 1
  funext x j1
  congr 1
  funext y j2
  congr 1
  funext z j3
  cases z <;> try rfl
  rename_i b
  cases b
  · simp only [wp_ret, if_false, Bool.false_eq_true]
  · simp only [wp_bnd, if_true]
    congr 1
    funext u j4
    congr 1
    funext z j5
    cases z <;> try rfl
    rename_i b
    cases b <;> simp only [wp_bnd, wp_ret, if_true, if_false, Bool.false_eq_true]
@[simp ↓] theorem wp_no : wp (mNo ρ j) I = I none j := rfl
@[simp ↓] theorem wp_yesI {me : Mir.Env → M D} : wp (mYesI me ρ j) I = wp (me ρ j) fun x j1 => match x with
  | .int i => I (some i) j1
  | _ => False := by
  unfold mYesI
  simp only [wp_bnd]
  congr 1
  funext x j1
  cases x <;> rfl
@[simp ↓] theorem wp_sl {me : Mir.Env → M D} {ml mh : Mir.Env → M (Option Int)} : wp (mSl me ml mh ρ j) Q = wp (me ρ j) fun x j1 => wp (ml ρ j1) fun lo j2 => wp (mh ρ j2) fun hi j3 => wp (dSl x lo hi j3) Q := by
  unfold mSl; simp only [wp_bnd]
@[simp ↓] theorem wp_mx {f : D → D → M D} {mo me : Mir.Env → M D} : wp (mMx f mo me ρ j) Q = wp (mo ρ j) fun x j1 => isSS x = true ∧ wp (me ρ j1) fun y j2 => wp (f x y j2) Q := by
  unfold mMx; simp only [wp_bnd, wp_need]
@[simp ↓] theorem wp_m1 {f : D → D → M D} {mo me : Mir.Env → M D} : wp (mM1 f mo me ρ j) Q = wp (mo ρ j) fun x j1 => match x with
  | .str s => wp (me ρ j1) fun y j2 => wp (f (.str s) y j2) Q
  | _ => False := by
  unfold mM1
  simp only [wp_bnd]
  congr 1
  funext x j1
  cases x <;> simp only [wp_bnd, wp_stuck]
/-! ### calls -/
@[simp ↓] theorem wp_call {n : Nat} {f : List D → M D} {ml : Mir.Env → M (List D)} : wp (mCall n f ml ρ j) Q = wp (ml ρ j) fun ds j1 => ds.length = n ∧ wp (f ds j1) Q := by
  unfold mCall
  simp only [wp_bnd]
  congr 1
  funext ds j1
  by_cases h : ds.length = n
  · rw [if_pos h]; exact propext ⟨fun z => ⟨h, z⟩, fun z => z.2⟩
  · rw [if_neg h]; exact propext ⟨fun z => z.elim, fun z => h z.1⟩
@[simp ↓] theorem wp_cl {f : List D → M D} {ml : Mir.Env → M (List D)} : wp (mCl f ml ρ j) Q = wp (ml ρ j) fun ds j1 => wp (f ds j1) Q := by
  unfold mCl; simp only [wp_bnd]
@[simp ↓] theorem wp_callK {nu nk : Nat} {π : List Nat} {n : Nat} {f : List D → M D} {ml mk : Mir.Env → M (List D)} : wp (mCallK nu nk π n f ml mk ρ j) Q = wp (ml ρ j) fun ds j1 => wp (mk ρ j1) fun ks j2 => (ds.length = nu ∧ ks.length = nk ∧ π.length = n) ∧ wp (f (permL .non π (ds ++ ks)) j2) Q := by
  unfold mCallK; simp only [wp_bnd, wp_need]
theorem wp_def {n : Nat} {ms : Mir.Env → M Fl} {ds : List D} : wp (mDef n ms ds j) Q = wp (ms (envOf n ds) j) fun f j1 => match f with
  | .rt d => Q d j1
  | .rtF d => Q d j1
  | .nx _ => Q .non j1
  | _ => False := by
  unfold mDef
  simp only [wp_bnd]
  congr 1
  funext f j1
  cases f <;> rfl
theorem wp_defF {n : Nat} {ms : Mir.Env → M Fl} {ds : List D} : wp (mDefF n ms ds j) Q = wp (ms (envOf n ds) j) fun f j1 => match f with
  | .rt d => isMut d = false ∧ Q d j1
  | .rtF d => Q d j1
  | .nx _ => Q .non j1
  | _ => False := by
  unfold mDefF
  simp only [wp_bnd]
  congr 1
  funext f j1
  cases f <;> simp only [wp_need, wp_ret, wp_stuck]
/-! ### statements -/
@[simp ↓] theorem wp_next : wp (mNext ρ j) S = S (.nx ρ) j := rfl
@[simp ↓] theorem wp_seq {a b : Mir.Env → M Fl} : wp (mSeq a b ρ j) S = wp (a ρ j) fun f j1 => match f with
  | .nx ρ' => wp (b ρ' j1) S
  | .rt d => S (.rt d) j1
  | .bk ρ' => S (.bk ρ') j1
  | .ct ρ' => S (.ct ρ') j1
  | .rtF d => S (.rtF d) j1 := by
  unfold mSeq
  simp only [wp_bnd]
  congr 1
  funext f j1
  cases f <;> rfl
@[simp ↓] theorem wp_mret {me : Mir.Env → M D} : wp (mRet me ρ j) S = wp (me ρ j) fun d j1 => S (.rt d) j1 := by
  unfold mRet; simp only [wp_bnd, wp_ret]
@[simp ↓] theorem wp_mretF {me : Mir.Env → M D} : wp (mRetF me ρ j) S = wp (me ρ j) fun d j1 => S (.rtF d) j1 := by
  unfold mRetF; simp only [wp_bnd, wp_ret]
@[simp ↓] theorem wp_mretN : wp (mRetN ρ j) S = S (.rt .non) j := rfl
@[simp ↓] theorem wp_drop {me : Mir.Env → M D} : wp (mDrop me ρ j) S = wp (me ρ j) fun d j1 => S (.nx ρ) j1 := by
  unfold mDrop; simp only [wp_bnd, wp_ret]
@[simp ↓] theorem wp_brk : wp (mBrk ρ j) S = S (.bk ρ) j := rfl
@[simp ↓] theorem wp_cnt : wp (mCnt ρ j) S = S (.ct ρ) j := rfl
@[simp ↓] theorem wp_never : wp (mNever ρ j) S = False := rfl
@[simp ↓] theorem wp_mif {mt : Mir.Env → M Bool} {a b : Mir.Env → M Fl} : wp (mIf mt a b ρ j) S = wp (mt ρ j) fun k j1 => if k = true then wp (a ρ j1) S else wp (b ρ j1) S := by
  unfold mIf; simp only [wp_bnd, wp_ite]
@[simp ↓] theorem wp_set {i : Nat} {me : Mir.Env → M D} : wp (mSet i me ρ j) S = wp (me ρ j) fun d j1 => S (.nx (ρ.set i (.val d))) j1 := by
  unfold mSet; simp only [wp_bnd, wp_ret]
@[simp ↓] theorem wp_setO {i : Nat} {me : Mir.Env → M D} : wp (mSetO i me ρ j) S = wp (me ρ j) fun d j1 => S (.nx (ρ.set i (slOf true d))) j1 := by
  unfold mSetO; simp only [wp_bnd, wp_ret]
@[simp ↓] theorem wp_frz {i : Nat} {ms : Mir.Env → M Fl} : wp (mFrz i ms ρ j) S = wp (ms (frz i ρ) j) S := rfl
@[simp ↓] theorem wp_par {is : List Nat} {fl : List Bool} {ml : Mir.Env → M (List D)} : wp (mPar is fl ml ρ j) S = wp (ml ρ j) fun ds j1 => S (.nx (setAll is (slsOf fl ds) ρ)) j1 := by
  unfold mPar; simp only [wp_bnd, wp_ret]
@[simp ↓] theorem wp_asg {me : Mir.Env → M D} {mg : D → Mir.Env → M Mir.Env} : wp (mAsg me mg ρ j) S = wp (me ρ j) fun d j1 => wp (mg d ρ j1) fun ρ' j2 => S (.nx ρ') j2 := by
  unfold mAsg; simp only [wp_bnd, wp_ret, wp_nox]
@[simp ↓] theorem wp_app {i : Nat} {me : Mir.Env → M D} : wp (mApp i me ρ j) S = match ρ[i]? with
  | some (.own ds) => wp (me ρ j) fun d j1 => ds.length < 16777216 ∧ S (.nx (ρ.set i (.own (ds ++ [d])))) j1
  | _ => False := by
  unfold mApp
  cases ρ[i]? with
  | none => rfl
  | some s =>
    cases s <;> try rfl
    rename_i ds
    dsimp only
    simp only [wp_bnd]
    congr 1
    funext d j1
    by_cases h : ds.length < LIM
    · rw [if_pos h]; exact propext ⟨fun z => ⟨h, z⟩, fun z => z.2⟩
    · rw [if_neg h]; exact propext ⟨fun z => z.elim, fun z => h z.1⟩
@[simp ↓] theorem wp_ext {i : Nat} {me : Mir.Env → M D} : wp (mExt i me ρ j) S = match ρ[i]? with
  | some (.own ds) => wp (me ρ j) fun d j1 => match d with
    | .lst es => ds.length + es.length ≤ 16777216 ∧ S (.nx (ρ.set i (.own (ds ++ es)))) j1
    | _ => False
  | _ => False := by
  unfold mExt
  cases ρ[i]? with
  | none => rfl
  | some s =>
    cases s <;> try rfl
    rename_i ds
    dsimp only
    simp only [wp_bnd]
    congr 1
    funext d j1
    cases d <;> try rfl
    rename_i es
    dsimp only
    by_cases h : ds.length + es.length ≤ LIM
    · rw [if_pos h]; exact propext ⟨fun z => ⟨h, z⟩, fun z => z.2⟩
    · rw [if_neg h]; exact propext ⟨fun z => z.elim, fun z => h z.1⟩
/-! ### targets -/
@[simp ↓] theorem wp_gN {i : Nat} {d : D} : wp (gN i d ρ j) G = G (ρ.set i (.val d)) j := rfl
@[simp ↓] theorem wp_gsNil : wp (gsNil [] ρ j) G = G ρ j := rfl
@[simp ↓] theorem wp_gsCons {g : D → Mir.Env → M Mir.Env} {r : List D → Mir.Env → M Mir.Env} {d : D} {ds : List D} : wp (gsCons g r (d :: ds) ρ j) G = wp (g d ρ j) fun ρ' j1 => wp (r ds ρ' j1) G := by
  unfold gsCons; simp only [wp_bnd]
@[simp ↓] theorem wp_gTupD {n : Nat} {r : List D → Mir.Env → M Mir.Env} {ds : List D} : wp (gTupD n r (.tup ds) ρ j) G = if ds.length = n then wp (r ds ρ j) G else False := by
  unfold gTupD
  dsimp only
  split <;> rfl
@[simp ↓] theorem wp_gLstD {n : Nat} {r : List D → Mir.Env → M Mir.Env} {ds : List D} : wp (gLstD n r (.lst ds) ρ j) G = if ds.length = n then wp (r ds ρ j) G else False := by
  unfold gLstD
  dsimp only
  split <;> rfl
@[simp ↓] theorem wp_gSeqT {n : Nat} {r : List D → Mir.Env → M Mir.Env} {ds : List D} : wp (gSeqD n r (.tup ds) ρ j) G = if ds.length = n then wp (r ds ρ j) G else False := by
  unfold gSeqD
  dsimp only
  split <;> rfl
@[simp ↓] theorem wp_gSeqL {n : Nat} {r : List D → Mir.Env → M Mir.Env} {ds : List D} : wp (gSeqD n r (.lst ds) ρ j) G = if ds.length = n then wp (r ds ρ j) G else False := by
  unfold gSeqD
  dsimp only
  split <;> rfl
@[simp ↓] theorem wp_gIxL {i : Nat} {mk : Mir.Env → M D} {d : D} : wp (gIxL i mk d ρ j) G = match ρ[i]? with
  | some (.own ds) => wp (mk ρ j) fun k j1 => match k with
    | .int n => match ixN ds.length n with
      | some q => G (ρ.set i (.own (ds.set q d))) j1
      | none => False
    | _ => False
  | _ => False := by
  unfold gIxL
  cases ρ[i]? with
  | none => rfl
  | some s =>
    cases s <;> try rfl
    rename_i ds
    dsimp only
    simp only [wp_bnd, wp_nox]
    congr 1
    funext k j1
    cases k <;> try rfl
    rename_i n
    dsimp only
    cases ixN ds.length n <;> rfl
@[simp ↓] theorem wp_gJx {i : Nat} {mk : Mir.Env → M D} {v : Int} : wp (gJx i mk (.int v) ρ j) G = match ρ[i]? with
  | some (.val .jar) => wp (mk ρ j) fun k j1 => match k with
    | .int n => match ixN j1.length n with
      | some q => G ρ (j1.set q v)
      | none => False
    | _ => False
  | _ => False := by
  unfold gJx
  cases ρ[i]? with
  | none => rfl
  | some s =>
    cases s <;> try rfl
    rename_i d
    cases d <;> try rfl
    dsimp only
    simp only [wp_bnd, wp_nox]
    congr 1
    funext k j1
    cases k <;> try rfl
    rename_i n
    dsimp only
    unfold jPut
    cases ixN j1.length n <;> rfl
/-! ### what is walked -/
@[simp ↓] theorem wp_seqA {me : Mir.Env → M D} : wp (mSeqA me ρ j) A = wp (me ρ j) fun d j1 => wp (dSeqA d j1) A := by
  unfold mSeqA; simp only [wp_bnd]
@[simp ↓] theorem wp_seqAL {ds : List D} : wp (dSeqA (.lst ds) j) A = A ds j := rfl
@[simp ↓] theorem wp_seqAT {ds : List D} : wp (dSeqA (.tup ds) j) A = A ds j := rfl
@[simp ↓] theorem wp_seqAS {s : Str} : wp (dSeqA (.str s) j) A = A (s.cps.toList.map fun x => .str ⟨#[x]⟩) j := rfl
@[simp ↓] theorem wp_argI {f : List D → M (List D)} {ml : Mir.Env → M (List D)} : wp (mArgI f ml ρ j) A = wp (ml ρ j) fun ds j1 => wp (f ds j1) A := by
  unfold mArgI; simp only [wp_bnd]
@[simp ↓] theorem wp_enumL {ds : List D} : wp (dEnum [.lst ds] j) A = A (numD 0 ds) j := rfl
@[simp ↓] theorem wp_enumT {ds : List D} : wp (dEnum [.tup ds] j) A = A (numD 0 ds) j := rfl
@[simp ↓] theorem wp_zipLL {ds es : List D} : wp (dZip [.lst ds, .lst es] j) A = A (zipD ds es) j := rfl
@[simp ↓] theorem wp_zipLT {ds es : List D} : wp (dZip [.lst ds, .tup es] j) A = A (zipD ds es) j := rfl
@[simp ↓] theorem wp_zipTL {ds es : List D} : wp (dZip [.tup ds, .lst es] j) A = A (zipD ds es) j := rfl
@[simp ↓] theorem wp_zipTT {ds es : List D} : wp (dZip [.tup ds, .tup es] j) A = A (zipD ds es) j := rfl
@[simp ↓] theorem wp_zip3 {a b c : D} : wp (dZip3 [a, b, c] j) A = match itemsD a, itemsD b, itemsD c with
  | some ds, some es, some fs => A (zipD3 ds es fs) j
  | _, _, _ => False := by
  unfold dZip3
  dsimp only
  cases itemsD a <;> cases itemsD b <;> cases itemsD c <;> rfl
@[simp ↓] theorem wp_rng1 {ma : Mir.Env → M D} : wp (mRng1 ma ρ j) A = wp (ma ρ j) fun x j1 => match x with
  | .int n => near n ∧ A (rangeD 0 n.toNat) j1
  | _ => False := by
  unfold mRng1
  simp only [wp_bnd]
  congr 1
  funext x j1
  cases x <;> try rfl
  simp only [dRng1, wp_need, wp_ret]
@[simp ↓] theorem wp_rng2 {ma mb : Mir.Env → M D} : wp (mRng2 ma mb ρ j) A = wp (ma ρ j) fun x j1 => wp (mb ρ j1) fun y j2 => match x, y with
  | .int i, .int n => (near i ∧ near n) ∧ A (rangeD i (n - i).toNat) j2
  | _, _ => False := by
  unfold mRng2
  simp only [wp_bnd]
  congr 1
  funext x j1
  congr 1
  funext y j2
  cases x <;> cases y <;> try rfl
  simp only [dRng2, wp_need, wp_ret]
@[simp ↓] theorem wp_rng3 {ma mb mc : Mir.Env → M D} : wp (mRng3 ma mb mc ρ j) A = wp (ma ρ j) fun x j1 => wp (mb ρ j1) fun y j2 => wp (mc ρ j2) fun z j3 => wp (dRng3 x y z j3) A := by
  unfold mRng3; simp only [wp_bnd]
@[simp ↓] theorem wp_dRng3 {i k s : Int} : wp (dRng3 (.int i) (.int k) (.int s) j) A = ((near i ∧ near k ∧ s = -1) ∧ A (downD i (i - k).toNat) j) := by
  unfold dRng3; simp only [wp_need, wp_ret]
@[simp ↓] theorem wp_for {mi : Mir.Env → M (List D)} {mg : D → Mir.Env → M Mir.Env} {body : Mir.Env → M Fl} : wp (mFor mi mg body ρ j) S = wp (mi ρ j) fun ds j1 => wp (mForL mg body ds ρ j1) S := by
  unfold mFor; simp only [wp_bnd]
@[simp ↓] theorem wp_comp {vs : List Nat} {mi : Mir.Env → M (List D)} {mg : D → Mir.Env → M Mir.Env} {mt : Mir.Env → M Bool} {me : Mir.Env → M D} : wp (mComp vs mi mg mt me ρ j) Q = wp (mi ρ j) fun ds j1 => ds.length ≤ 16777216 ∧ wp (mLcL mg mt me ds (wipeE ρ vs) j1) fun xs j2 => Q (.lst xs) j2 := by
  unfold mComp; simp only [wp_bnd, wp_need, wp_ret]
@[simp ↓] theorem wp_comp2 {vs vs1 : List Nat} {mi : Mir.Env → M (List D)} {mg : D → Mir.Env → M Mir.Env} {mt : Mir.Env → M Bool} {mi1 : Mir.Env → M (List D)} {mg1 : D → Mir.Env → M Mir.Env} {mt1 : Mir.Env → M Bool} {me : Mir.Env → M D} :
    wp (mComp2 vs vs1 mi mg mt mi1 mg1 mt1 me ρ j) Q = wp (mi ρ j) fun ds j1 => wp (mLc2L mg mt mi1 mg1 mt1 me vs1 ds (wipeE ρ vs) j1) fun xs j2 => xs.length ≤ 16777216 ∧ Q (.lst xs) j2 := by
  unfold mComp2; simp only [wp_bnd, fin2, wp_need, wp_ret]
@[simp ↓] theorem wp_yes : wp (mYes ρ j) T = T true j := rfl
@[simp ↓] theorem wp_unown {i : Nat} {me : Mir.Env → M D} : wp (mUnown i me ρ j) Q = wp (me (frz i ρ) j) fun d j1 => isFlat d = true ∧ Q d j1 := by
  unfold mUnown; simp only [wp_bnd, wp_nox, wp_need, wp_ret]
/-! ### operators -/
@[simp ↓] theorem wp_add {a b : Int} : wp (dAdd (.int a) (.int b) j) Q = Q (.int (a + b)) j := rfl
@[simp ↓] theorem wp_addL {a b : List D} : wp (dAdd (.lst a) (.lst b) j) Q = (a.length + b.length ≤ 16777216 ∧ Q (.lst (a ++ b)) j) := by unfold dAdd; simp only [wp_need, wp_ret]
@[simp ↓] theorem wp_addT {a b : List D} : wp (dAdd (.tup a) (.tup b) j) Q = (a.length + b.length ≤ 16777216 ∧ Q (.tup (a ++ b)) j) := by unfold dAdd; simp only [wp_need, wp_ret]
@[simp ↓] theorem wp_sub {a b : Int} : wp (dSub (.int a) (.int b) j) Q = Q (.int (a - b)) j := rfl
@[simp ↓] theorem wp_mul {a b : Int} : wp (dMul (.int a) (.int b) j) Q = ((small a ∨ small b) ∧ Q (.int (a * b)) j) := by unfold dMul; simp only [wp_need, wp_ret]
@[simp ↓] theorem wp_mulL {a : List D} {k : Int} : wp (dMul (.lst a) (.int k) j) Q = ((-(2 ^ 63) ≤ k ∧ k < 2 ^ 63 ∧ a.length * k.toNat ≤ 16777216) ∧ Q (.lst (List.replicate k.toNat a).flatten) j) := by unfold dMul; simp only [wp_need, wp_ret]
@[simp ↓] theorem wp_mulT {a : List D} {k : Int} : wp (dMul (.tup a) (.int k) j) Q = ((neNil a = true ∧ 1 ≤ k ∧ k ≤ 1000 ∧ a.length ≤ 1000) ∧ Q (.tup (List.replicate k.toNat a).flatten) j) := by unfold dMul; simp only [wp_need, wp_ret]
@[simp ↓] theorem wp_fdiv {a b : Int} : wp (dFdiv (.int a) (.int b) j) Q = ((0 < b ∧ b < 1073741824) ∧ Q (.int (a / b)) j) := by unfold dFdiv; simp only [wp_need, wp_ret]
@[simp ↓] theorem wp_fdivW {a b : Int} : wp (dFdivW (.int a) (.int b) j) Q = ((0 < b ∧ b.natAbs.log2 < 9000) ∧ Q (.int (a / b)) j) := by unfold dFdivW; simp only [wp_need, wp_ret]
@[simp ↓] theorem wp_divmod {a b : Int} : wp (dDivmod [.int a, .int b] j) Q = ((0 < b ∧ b < 1073741824) ∧ Q (.tup [.int (a / b), .int (a % b)]) j) := by unfold dDivmod; simp only [wp_need, wp_ret]
@[simp ↓] theorem wp_divmodW {a b : Int} : wp (dDivmodW [.int a, .int b] j) Q = ((0 < b ∧ b.natAbs.log2 < 9000) ∧ Q (.tup [.int (a / b), .int (a % b)]) j) := by unfold dDivmodW; simp only [wp_need, wp_ret]
@[simp ↓] theorem wp_mod {a b : Int} : wp (dMod (.int a) (.int b) j) Q = (0 < b ∧ Q (.int (a % b)) j) := by unfold dMod; simp only [wp_need, wp_ret]
@[simp ↓] theorem wp_pow {a b : Int} : wp (dPow (.int a) (.int b) j) Q = ((0 ≤ b ∧ b ≤ 1000000 ∧ a.natAbs < 2 ^ 64) ∧ Q (.int (a ^ b.toNat)) j) := by unfold dPow; simp only [wp_need, wp_ret]
@[simp ↓] theorem wp_neg {a : Int} : wp (dNeg (.int a) j) Q = Q (.int (-a)) j := rfl
@[simp ↓] theorem wp_lt {a b : Int} : wp (dLt (.int a) (.int b) j) Q = Q (.bl (decide (a < b))) j := rfl
@[simp ↓] theorem wp_le {a b : Int} : wp (dLe (.int a) (.int b) j) Q = Q (.bl (decide (a ≤ b))) j := rfl
@[simp ↓] theorem wp_gt {a b : Int} : wp (dGt (.int a) (.int b) j) Q = Q (.bl (decide (b < a))) j := rfl
@[simp ↓] theorem wp_ge {a b : Int} : wp (dGe (.int a) (.int b) j) Q = Q (.bl (decide (b ≤ a))) j := rfl
@[simp ↓] theorem wp_isBl {a b : Bool} : wp (dIsBl (.bl a) (.bl b) j) Q = Q (.bl (a == b)) j := rfl
@[simp ↓] theorem wp_notBl {a b : Bool} : wp (dNotBl (.bl a) (.bl b) j) Q = Q (.bl (a != b)) j := rfl
theorem eqW_int {k : Bool → M D} {a b : Int} : eqWith k (.int a) (.int b) j = k (decide (a = b)) j := by
  unfold eqWith
  show (if scal (V.int a) (V.int b) = true then k (decide (V.int a = V.int b)) else deepEq (.int a) (.int b) k) j = _
  rw [if_pos (show scal (V.int a) (V.int b) = true from rfl)]
  have e : decide (V.int a = V.int b) = decide (a = b) := by
    by_cases h : a = b
    · subst h; simp
    · rw [decide_eq_false h, decide_eq_false fun z => h (V.int.inj z)]
  rw [e]
theorem eqW_str {k : Bool → M D} {a b : Str} : eqWith k (.str a) (.str b) j = k (decide (a = b)) j := by
  unfold eqWith
  show (if scal (V.str a) (V.str b) = true then k (decide (V.str a = V.str b)) else deepEq (.str a) (.str b) k) j = _
  rw [if_pos (show scal (V.str a) (V.str b) = true from rfl)]
  have e : decide (V.str a = V.str b) = decide (a = b) := by
    by_cases h : a = b
    · subst h; simp
    · rw [decide_eq_false h, decide_eq_false fun z => h (V.str.inj z)]
  rw [e]
@[simp ↓] theorem wp_eqI {a b : Int} : wp (dEq (.int a) (.int b) j) Q = Q (.bl (decide (a = b))) j := by unfold dEq; rw [eqW_int]; rfl
@[simp ↓] theorem wp_neI {a b : Int} : wp (dNe (.int a) (.int b) j) Q = Q (.bl (!decide (a = b))) j := by unfold dNe; rw [eqW_int]; rfl
@[simp ↓] theorem wp_eqS {a b : Str} : wp (dEq (.str a) (.str b) j) Q = Q (.bl (decide (a = b))) j := by unfold dEq; rw [eqW_str]; rfl
@[simp ↓] theorem wp_neS {a b : Str} : wp (dNe (.str a) (.str b) j) Q = Q (.bl (!decide (a = b))) j := by unfold dNe; rw [eqW_str]; rfl
/-! ### built-in functions -/
@[simp ↓] theorem wp_lenL {ds : List D} : wp (dLen [.lst ds] j) Q = Q (.int (ds.length : Nat)) j := rfl
@[simp ↓] theorem wp_lenT {ds : List D} : wp (dLen [.tup ds] j) Q = Q (.int (ds.length : Nat)) j := rfl
@[simp ↓] theorem wp_lenC {ns : List Int} : wp (dLen [.scr ns] j) Q = Q (.int (ns.length : Nat)) j := rfl
@[simp ↓] theorem wp_lenS {s : Str} : wp (dLen [.str s] j) Q = (s.length ≤ 16777216 ∧ Q (.int (s.length : Nat)) j) := by unfold dLen; simp only [wp_need, wp_ret]
@[simp ↓] theorem wp_abs {i : Int} : wp (dAbs [.int i] j) Q = Q (.int (if i < 0 then -i else i)) j := rfl
@[simp ↓] theorem wp_int {i : Int} : wp (dInt [.int i] j) Q = Q (.int i) j := rfl
@[simp ↓] theorem wp_max2 {i k : Int} : wp (dMax [.int i, .int k] j) Q = Q (.int (max i k)) j := by
  show Q (.int (if k > i then k else i)) j = _
  congr 2
  omega
@[simp ↓] theorem wp_min2 {i k : Int} : wp (dMin [.int i, .int k] j) Q = Q (.int (min i k)) j := by
  show Q (.int (if k < i then k else i)) j = _
  congr 2
  omega
@[simp ↓] theorem wp_max3 {i k l : Int} : wp (dMax3 [.int i, .int k, .int l] j) Q = Q (.int (max i (max k l))) j := by
  show Q (.int (max2 (max2 i k) l)) j = _
  congr 2
  unfold max2
  omega
@[simp ↓] theorem wp_min3 {i k l : Int} : wp (dMin3 [.int i, .int k, .int l] j) Q = Q (.int (min i (min k l))) j := by
  show Q (.int (min2 (min2 i k) l)) j = _
  congr 2
  unfold min2
  omega
theorem sumI_Q (xs : List Int) : sumI xs = xs.sum := by
  induction xs with
  | nil => rfl
  | cons x xs ih => rw [List.sum_cons, ← ih]; rfl
theorem wp_sumL {xs : List Int} : wp (dSum [.lst (xs.map .int)] j) Q = Q (.int xs.sum) j := by
  show wp (onInts (xs.map D.int) _ j) Q = _; unfold onInts; rw [toInts_map, ← sumI_Q]; rfl
theorem wp_sumT {xs : List Int} : wp (dSum [.tup (xs.map .int)] j) Q = Q (.int xs.sum) j := by
  show wp (onInts (xs.map D.int) _ j) Q = _; unfold onInts; rw [toInts_map, ← sumI_Q]; rfl
theorem wp_allB {xs : List Bool} : wp (dAll [.lst (xs.map .bl)] j) Q = Q (.bl (xs.all id)) j := by
  show wp (onBools (xs.map D.bl) _ j) Q = _; unfold onBools; rw [toBools_map]; rfl
theorem wp_anyB {xs : List Bool} : wp (dAny [.lst (xs.map .bl)] j) Q = Q (.bl (xs.any id)) j := by
  show wp (onBools (xs.map D.bl) _ j) Q = _; unfold onBools; rw [toBools_map]; rfl
@[simp ↓] theorem wp_tupFL {ds : List D} : wp (dTupF [.lst ds] j) Q = Q (.tup ds) j := rfl
@[simp ↓] theorem wp_tupFT {ds : List D} : wp (dTupF [.tup ds] j) Q = Q (.tup ds) j := rfl
@[simp ↓] theorem wp_lstFL {ds : List D} : wp (dLstF [.lst ds] j) Q = Q (.lst ds) j := rfl
@[simp ↓] theorem wp_lstFT {ds : List D} : wp (dLstF [.tup ds] j) Q = Q (.lst ds) j := rfl
@[simp ↓] theorem wp_jx {n : Int} : wp (dJx .jar (.int n) j) Q = match ixN j.length n with
  | some q => match j[q]? with
    | some v => Q (.int v) j
    | none => False
  | none => False := by
  unfold dJx jAt
  dsimp only
  cases ixN j.length n with
  | none => rfl
  | some q => dsimp only; cases j[q]? <;> rfl
/-! ### loops -/
theorem wp_forL {mg : D → Mir.Env → M Mir.Env} {body : Mir.Env → M Fl} {α : Type} (emb : α → D) (I : List α → Mir.Env → List Int → Prop) {xs : List α} (h0 : I xs ρ j)
    (hs : ∀ x r ρ j, I (x :: r) ρ j → wp (mg (emb x) ρ j) fun ρ1 j1 => wp (body ρ1 j1) fun f j2 => match f with
      | .nx ρ2 => I r ρ2 j2
      | .ct ρ2 => I r ρ2 j2
      | .bk ρ2 => S (.nx ρ2) j2
      | .rt d => S (.rt d) j2
      | .rtF d => S (.rtF d) j2)
    (he : ∀ ρ j, I [] ρ j → S (.nx ρ) j) : wp (mForL mg body (xs.map emb) ρ j) S := by
  induction xs generalizing ρ j with
  | nil => exact he ρ j h0
  | cons x xs ih =>
    rw [List.map_cons]
    unfold mForL
    simp only [wp_bnd, wp_nox]
    refine wp_mono (hs x xs ρ j h0) fun ρ1 j1 h1 => ?_
    refine wp_mono h1 fun f j2 h2 => ?_
    cases f with
    | nx ρ2 => exact ih h2
    | ct ρ2 => exact ih h2
    | bk ρ2 => exact h2
    | rt d => exact h2
    | rtF d => exact h2
/-- a comprehension that leaves the jar -/
theorem wp_lc {mg : D → Mir.Env → M Mir.Env} {mt : Mir.Env → M Bool} {me : Mir.Env → M D} {α : Type} (emb : α → D) (p : α → Bool) (g : α → D) {xs : List α}
    (h : ∀ x ∈ xs, wp (mg (emb x) ρ j) fun ρ1 j1 => j1 = j ∧ wp (mt ρ1 j) fun b j2 => j2 = j ∧ b = p x ∧ (p x = true → wp (me ρ1 j) fun d j3 => d = g x ∧ j3 = j))
    (hA : A ((xs.filter p).map g) j) : wp (mLcL mg mt me (xs.map emb) ρ j) A := by
  refine wp_of (comp_lc emb p g xs fun x hx => ?_) hA
  obtain ⟨ρ1, j1, e1, rfl, q⟩ := wp_ex (h x hx)
  obtain ⟨b, j2, e2, rfl, rfl, q⟩ := wp_ex q
  exact ⟨ρ1, e1, e2, fun z => of_wp (q z)⟩
theorem wp_lcA {mg : D → Mir.Env → M Mir.Env} {me : Mir.Env → M D} {α : Type} (emb : α → D) (g : α → D) {xs : List α}
    (h : ∀ x ∈ xs, wp (mg (emb x) ρ j) fun ρ1 j1 => j1 = j ∧ wp (me ρ1 j) fun d j3 => d = g x ∧ j3 = j)
    (hA : A (xs.map g) j) : wp (mLcL mg mYes me (xs.map emb) ρ j) A := by
  refine wp_lc emb (fun _ => true) g (fun x hx => wp_mono (h x hx) fun ρ1 j1 ⟨e, q⟩ => ⟨e, rfl, rfl, fun _ => q⟩) ?_
  rw [List.filter_eq_self.mpr fun _ _ => rfl]
  exact hA
/-- a comprehension by something that holds of what is left and what is found -/
theorem wp_lcI {mg : D → Mir.Env → M Mir.Env} {me : Mir.Env → M D} {α : Type} (emb : α → D) (I : List α → List D → List Int → Prop) {xs : List α}
    (hs : ∀ x r ys j, I (x :: r) ys j → wp (mg (emb x) ρ j) fun ρ1 j1 => wp (me ρ1 j1) fun d j2 => I r (ys ++ [d]) j2)
    (he : ∀ ys j, I [] ys j → A ys j) (h0 : I xs [] j) : wp (mLcL mg mYes me (xs.map emb) ρ j) A := by
  have key : ∀ (xs : List α) (ys : List D) (j : List Int), I xs ys j → wp (mLcL mg mYes me (xs.map emb) ρ j) fun zs j' => A (ys ++ zs) j' := by
    intro xs
    induction xs with
    | nil => intro ys j h; show A (ys ++ []) j; rw [List.append_nil]; exact he ys j h
    | cons x xs ih =>
      intro ys j h
      rw [List.map_cons]
      unfold mLcL
      simp only [wp_bnd, wp_nox, wp_yes, if_true, wp_ret]
      refine wp_mono (hs x xs ys j h) fun ρ1 j1 h1 => ?_
      refine wp_mono h1 fun d j2 h2 => ?_
      refine wp_mono (ih _ _ h2) fun zs j3 h3 => ?_
      rw [List.append_assoc] at h3
      exact h3
  exact wp_mono (key xs [] j h0) fun zs j' h => h
end
end Mir
set_option Elab.async false
set_option linter.all false
set_option maxRecDepth 100000
set_option maxHeartbeats 4000000
/-! Wp2: more of what simp runs: instances, texts, places, repr. -/
namespace Mir
open PySem L2 PySem.Spec PyProof.Rows
section
variable {j : List Int} {ρ : Mir.Env} {Q : D → List Int → Prop} {S : Fl → List Int → Prop} {T : Bool → List Int → Prop} {A : List D → List Int → Prop} {G : Mir.Env → List Int → Prop} {I : Option Int → List Int → Prop}
theorem ixN_nat {n k : Nat} : ixN n (k : Nat) = if k < n then some k else none := by
  unfold ixN
  by_cases h : k < n
  · rw [if_pos (by omega), if_pos (by omega), if_pos h]; rfl
  · rw [if_pos (by omega), if_neg (by omega), if_neg h]
@[simp ↓] theorem wp_ixT {ds : List D} {i : Int} : wp (dIx (.tup ds) (.int i) j) Q = match ixN ds.length i with
  | some k => match ds[k]? with
    | some d => Q d j
    | none => False
  | none => False := by
  show wp (atD ds i j) Q = _
  unfold atD
  cases ixN ds.length i with
  | none => rfl
  | some k => dsimp only; cases ds[k]? <;> rfl
@[simp ↓] theorem wp_ixL {ds : List D} {i : Int} : wp (dIx (.lst ds) (.int i) j) Q = match ixN ds.length i with
  | some k => match ds[k]? with
    | some d => Q d j
    | none => False
  | none => False := by
  show wp (atD ds i j) Q = _
  unfold atD
  cases ixN ds.length i with
  | none => rfl
  | some k => dsimp only; cases ds[k]? <;> rfl
theorem wp_ixTn {ds : List D} {k : Nat} {d : D} (h : ds[k]? = some d) : wp (dIx (.tup ds) (.int (k : Nat)) j) Q = Q d j := by
  rw [wp_ixT, ixN_nat, if_pos (List.getElem?_eq_some_iff.mp h).1]
  dsimp only
  rw [h]
theorem wp_ixLn {ds : List D} {k : Nat} {d : D} (h : ds[k]? = some d) : wp (dIx (.lst ds) (.int (k : Nat)) j) Q = Q d j := by
  rw [wp_ixL, ixN_nat, if_pos (List.getElem?_eq_some_iff.mp h).1]
  dsimp only
  rw [h]
@[simp ↓] theorem wp_ixK {ks : List Key} {ds : List D} {y : D} : wp (dIx (.dK ks ds) y j) Q = match keyOf y with
  | some k => match findK ks ds k with
    | some d => Q d j
    | none => False
  | none => False := by
  show wp (getK ks ds y j) Q = _
  unfold getK
  cases keyOf y with
  | none => rfl
  | some k => dsimp only; cases findK ks ds k <;> rfl
@[simp ↓] theorem wp_slL {ds : List D} {lo hi : Option Int} : wp (dSl (.lst ds) lo hi j) Q = Q (.lst (cutD ds lo hi)) j := rfl
@[simp ↓] theorem wp_slT {ds : List D} {lo hi : Option Int} : wp (dSl (.tup ds) lo hi j) Q = Q (.tup (cutD ds lo hi)) j := rfl
@[simp ↓] theorem wp_slC {ns : List Int} {lo hi : Option Int} : wp (dSl (.scr ns) lo hi j) Q = Q (.lst (cutD (ns.map .int) lo hi)) j := rfl
@[simp] theorem tyOf_non : tyOf .non = some .non := rfl
@[simp] theorem tyOf_bl {b : Bool} : tyOf (.bl b) = some .bool := rfl
@[simp] theorem tyOf_int {i : Int} : tyOf (.int i) = some .int := rfl
@[simp] theorem tyOf_str {s : Str} : tyOf (.str s) = some .str := rfl
@[simp] theorem tyOf_tup {ds : List D} : tyOf (.tup ds) = some .tup := rfl
@[simp] theorem tyOf_lst {ds : List D} : tyOf (.lst ds) = some .lst := rfl
@[simp] theorem tyOf_dK {ks : List Key} {ds : List D} : tyOf (.dK ks ds) = some .dct := rfl
@[simp] theorem tyOf_ins {k : Nat} {ns : List Str} {ds : List D} : tyOf (.ins k ns ds) = none := rfl
@[simp ↓] theorem wp_isB {t : Ty} {kn : List Nat} {d : D} : wp (dIsB t kn d j) Q = match tyOf d with
  | some u => Q (.bl (isTy u t)) j
  | none => match d with
    | .ins k _ _ => k ∈ kn ∧ Q (.bl false) j
    | _ => False := by
  unfold dIsB
  cases d <;> try rfl
  rename_i k ns ds
  show wp ((if k ∈ kn then ret (D.bl false) else stuck : M D) j) Q = _
  by_cases h : k ∈ kn
  · rw [if_pos h]; exact propext ⟨fun z => ⟨h, z⟩, fun z => z.2⟩
  · rw [if_neg h]; exact propext ⟨fun z => z.elim, fun z => h z.1⟩
@[simp ↓] theorem wp_isC {k0 : Nat} {kn : List Nat} {d : D} : wp (dIsC k0 kn d j) Q = match tyOf d with
  | some _ => Q (.bl false) j
  | none => match d with
    | .ins k _ _ => k ∈ kn ∧ Q (.bl (k == k0)) j
    | _ => False := by
  unfold dIsC
  cases d <;> try rfl
  rename_i k ns ds
  show wp ((if k ∈ kn then ret (D.bl (k == k0)) else stuck : M D) j) Q = _
  by_cases h : k ∈ kn
  · rw [if_pos h]; exact propext ⟨fun z => ⟨h, z⟩, fun z => z.2⟩
  · rw [if_neg h]; exact propext ⟨fun z => z.elim, fun z => h z.1⟩
@[simp ↓] theorem wp_fset {i : Nat} {kn : List Nat} {f : Str} {me : Mir.Env → M D} : wp (mFset i kn f me ρ j) S = match ρ[i]? with
  | some (.ownI k ns ds) => wp (me ρ j) fun d j1 => (k ∈ kn ∧ f ∉ ns ∧ ns.length < 900) ∧ S (.nx (ρ.set i (.ownI k (ns ++ [f]) (ds ++ [d])))) j1
  | _ => False := by
  unfold mFset
  cases ρ[i]? with
  | none => rfl
  | some s =>
    cases s <;> try rfl
    rename_i k ns ds
    dsimp only
    simp only [wp_bnd]
    congr 1
    funext d j1
    by_cases h : k ∈ kn ∧ f ∉ ns ∧ ns.length < 900
    · rw [if_pos h]; exact propext ⟨fun z => ⟨h, z⟩, fun z => z.2⟩
    · rw [if_neg h]; exact propext ⟨fun z => z.elim, fun z => h z.1⟩
@[simp ↓] theorem wp_fld {kn : List Nat} {f : Str} {k : Nat} {ns : List Str} {ds : List D} : wp (dFld kn f (.ins k ns ds) j) Q = (k ∈ kn ∧ match findF ns ds f with
  | some d => Q d j
  | none => False) := by
  unfold dFld
  dsimp only
  by_cases h : k ∈ kn
  · rw [if_pos h]
    cases findF ns ds f with
    | none => exact propext ⟨fun z => z.elim, fun z => z.2⟩
    | some d => exact propext ⟨fun z => ⟨h, z⟩, fun z => z.2⟩
  · rw [if_neg h]; exact propext ⟨fun z => z.elim, fun z => h z.1⟩
theorem wp_init {k n : Nat} {ms : Mir.Env → M Fl} {ds : List D} : wp (mInit k n ms ds j) Q = wp (ms (.ownI k [] [] :: envOf (n - 1) ds) j) fun f j1 => match f with
  | .nx ρ => wp (slot0 ρ j1) Q
  | _ => False := by
  unfold mInit
  simp only [wp_bnd]
  congr 1
  funext f j1
  cases f <;> rfl
@[simp ↓] theorem wp_slot0 {k : Nat} {ns : List Str} {fs : List D} {r : Mir.Env} : wp (slot0 (.ownI k ns fs :: r) j) Q = Q (.ins k ns fs) j := rfl
@[simp ↓] theorem wp_make {n : Nat} {fm : List D → M D} {ds : List D} : wp (dMake n fm ds j) Q = (ds.length + 1 = n ∧ wp (fm ds j) fun d j1 => isIns d = true ∧ Q d j1) := by
  unfold dMake
  simp only [wp_need, wp_bnd, wp_nox, wp_ret]
@[simp ↓] theorem wp_js0 {acc : Str} : wp (mJs [] acc ρ j) Q = Q (.str acc) j := rfl
@[simp ↓] theorem wp_js {me : Mir.Env → M D} {ms : List (Mir.Env → M D)} {acc : Str} : wp (mJs (me :: ms) acc ρ j) Q = wp (me ρ j) fun d j1 => match d with
  | .str y => (acc ++ y).length ≤ 16777216 ∧ wp (mJs ms (acc ++ y) ρ j1) Q
  | _ => False := by
  show wp (bnd (me ρ) _ j) Q = _
  rw [wp_bnd]
  congr 1
  funext d j1
  cases d <;> try rfl
  dsimp only
  rw [wp_need]
@[simp ↓] theorem wp_fmtS {s : Str} : wp (dFmt (.str s) j) Q = (s.length ≤ 16777216 ∧ Q (.str s) j) := by
  show wp ((need (s.length ≤ LIM) (ret (.str s)) : M D) j) Q = _
  rw [wp_need, wp_ret]
@[simp ↓] theorem wp_fmtI {i : Int} : wp (dFmt (.int i) j) Q = (i.natAbs.log2 < 1920 ∧ Q (.str (toString i)) j) := by
  show wp ((need (i.natAbs.log2 < 1920) (ret (.str (toString i))) : M D) j) Q = _
  rw [wp_need, wp_ret]
@[simp ↓] theorem wp_strI {i : Int} : wp (dStr [.int i] j) Q = (i.natAbs.log2 < 1920 ∧ Q (.str (toString i)) j) := by
  show wp ((need (i.natAbs.log2 < 1920) (ret (.str (toString i))) : M D) j) Q = _
  rw [wp_need, wp_ret]
@[simp ↓] theorem wp_strS {s : Str} : wp (dStr [.str s] j) Q = Q (.str s) j := rfl
theorem toStrs_map' : ∀ xs : List Str, toStrs (xs.map D.str) = some xs
  | [] => rfl
  | x :: xs => by
    rw [List.map_cons]
    unfold toStrs
    rw [toStrs_map' xs]; rfl
/-- joined: the text is not told, its length is bounded -/
theorem wp_join {a : Str} {xs : List Str} {n : Nat} (h : ∀ x ∈ xs, x.length ≤ n) (hl : xs.length * (n + a.length) ≤ 16777216) (hq : ∀ t : Str, t = PySem.Txt.join a xs → t.length ≤ xs.length * (n + a.length) → Q (.str t) j) : wp (dJoin (.str a) (.lst (xs.map .str)) j) Q := by
  have l1 : ∀ l : List Str, (∀ x ∈ l, x.length ≤ n) → (l.map (·.length)).sum ≤ l.length * n := fun l => by
    induction l with
    | nil => intro _; exact Nat.zero_le _
    | cons x l ih =>
      intro h
      have h1 := h x List.mem_cons_self
      have h2 := ih fun y hy => h y (List.mem_cons_of_mem _ hy)
      rw [List.map_cons, List.sum_cons, List.length_cons, Nat.add_mul]
      omega
  have l1 := l1 xs h
  rw [Nat.mul_add] at hl hq
  have e : wp (dJoin (.str a) (.lst (xs.map .str)) j) Q = ((xs.map (·.length)).sum + xs.length * a.length ≤ 16777216 ∧ Q (.str (PySem.Txt.join a xs)) j) := by
    unfold dJoin
    dsimp only
    unfold dJoin.onStrsM onStrs
    rw [toStrs_map']
    dsimp only
    rw [wp_need, wp_ret]
  rw [e]
  refine ⟨by omega, hq _ rfl ?_⟩
  rw [_root_.TL.join_eq]
  exact Nat.le_trans (StrLaws.join_length_le _ _) (by omega)
@[simp ↓] theorem prop_hd {k : Nat} {fm : List D → M D} {r : List (Nat × (List D → M D))} {ns : List Str} {ds : List D} : wp (dProp ((k, fm) :: r) (.ins k ns ds) j) Q = wp (fm [.ins k ns ds] j) Q := by
  show wp ((if k = k then nox (fm [.ins k ns ds]) else _ : M D) j) Q = _
  rw [if_pos rfl, wp_nox]
theorem wp_reprL {ds : List D} {k n : Nat} (h : Prt (.lst ds) k n) (hk : k ≤ 64) (hn : n ≤ 16777216) : wp (dRepr [.lst ds] j) Q = Q (.str (txt (.lst ds))) j := by
  show wp (reprD (.lst ds) j) Q = _
  rw [reprD_ok h hk hn]; rfl
theorem wp_reprT {ds : List D} {k n : Nat} (h : Prt (.tup ds) k n) (hk : k ≤ 64) (hn : n ≤ 16777216) : wp (dRepr [.tup ds] j) Q = Q (.str (txt (.tup ds))) j := by
  show wp (reprD (.tup ds) j) Q = _
  rw [reprD_ok h hk hn]; rfl
@[simp ↓] theorem wp_mulTZ {a : List D} {k : Int} : wp (dMulT (.tup a) (.int k) j) Q = if k = 0 then neNil a = true ∧ Q (.tup []) j else ((neNil a = true ∧ 1 ≤ k ∧ k ≤ 1000 ∧ a.length ≤ 1000) ∧ Q (.tup (List.replicate k.toNat a).flatten) j) := by
  show wp ((if k = 0 then need (neNil a = true) (ret (.tup [])) else dMul (.tup a) (.int k) : M D) j) Q = _
  rw [wp_ite, wp_need, wp_ret, wp_mulT]
theorem rangeD_Q (lo hi : Int) : rangeD lo (hi + 1 - lo).toNat = (Q70.upto lo hi).map D.int := by
  unfold rangeD Q70.upto
  rw [List.map_map]; rfl
theorem rangeD_0 (hi : Int) : rangeD 0 hi.toNat = (Q70.upto 0 (hi - 1)).map D.int := by
  rw [← rangeD_Q]; congr 2; omega
/-! ### texts -/
theorem char_map_inj : ∀ {a b : List Char}, a.map Char.toNat = b.map Char.toNat → a = b
  | [], [], _ => rfl
  | [], _ :: _, h => by cases h
  | _ :: _, [], h => by cases h
  | x :: a, y :: b, h => by
    rw [List.map_cons, List.map_cons] at h
    injection h with h1 h2
    rw [char_map_inj h2, Char.toNat_inj.mp h1]
@[simp] theorem ofStr_inj {s t : String} : Str.ofString s = Str.ofString t ↔ s = t := by
  constructor
  · intro h
    rw [Str.ofString_eq_toList, Str.ofString_eq_toList] at h
    injection h with h
    have h : s.toList.map Char.toNat = t.toList.map Char.toNat := by simpa using congrArg Array.toList h
    exact String.toList_inj.mp (char_map_inj h)
  · rintro rfl; rfl
theorem ofStr_len {s : String} : (Str.ofString s).length = s.length := by
  rw [Str.ofString_eq_toList]
  show ((s.toList.map Char.toNat).toArray).size = _
  rw [List.size_toArray, List.length_map]
  rfl
@[simp] theorem strApp_len {a b : Str} : (a ++ b).length = a.length + b.length := strLen_append a b
@[simp] theorem strE_len : Str.empty.length = 0 := rfl
/-! ### environments, places -/
@[simp] theorem envOf_eq {n : Nat} {ds : List D} : envOf n ds = ds.map .val ++ List.replicate (n - ds.length) .no := rfl
@[simp] theorem slVal_lv {d : D} : slVal .look (some (.val d)) = some d := rfl
@[simp] theorem slVal_kv {d : D} : slVal .keep (some (.val d)) = some d := rfl
@[simp] theorem slVal_fv {d : D} : slVal .fresh (some (.val d)) = if isMut d = true then none else some d := rfl
@[simp] theorem slVal_lo {ds : List D} : slVal .look (some (.own ds)) = some (.lst ds) := rfl
@[simp] theorem slVal_ld {ks : List Key} {ds : List D} : slVal .look (some (.ownD ks ds)) = some (.dK ks ds) := rfl
@[simp] theorem slVal_li {k : Nat} {ns : List Str} {ds : List D} : slVal .look (some (.ownI k ns ds)) = some (.ins k ns ds) := rfl
@[simp] theorem wipeE_nil {ρ : Mir.Env} : wipeE ρ [] = ρ := rfl
@[simp] theorem wipeE_cons {ρ : Mir.Env} {v : Nat} {vs : List Nat} : wipeE ρ (v :: vs) = (wipeE ρ vs).set v .no := rfl
@[simp] theorem frz_eq {i : Nat} {ρ : Mir.Env} : frz i ρ = match ρ[i]? with
  | some (.own ds) => ρ.set i (.val (.lst ds))
  | some (.ownD ks ds) => ρ.set i (.val (.dK ks ds))
  | some (.ownI k ns ds) => ρ.set i (.val (.ins k ns ds))
  | _ => ρ := rfl
@[simp] theorem setAll_nil {ss : List Sl} {ρ : Mir.Env} : setAll [] ss ρ = ρ := rfl
@[simp] theorem setAll_cons {i : Nat} {is : List Nat} {s : Sl} {ss : List Sl} {ρ : Mir.Env} : setAll (i :: is) (s :: ss) ρ = (setAll is ss ρ).set i s := rfl
@[simp] theorem slsOf_nil {ds : List D} : slsOf [] ds = [] := rfl
@[simp] theorem slsOf_cons {o : Bool} {fl : List Bool} {d : D} {ds : List D} : slsOf (o :: fl) (d :: ds) = slOf o d :: slsOf fl ds := rfl
@[simp] theorem slOf_f {d : D} : slOf false d = .val d := rfl
@[simp] theorem slOf_l {ds : List D} : slOf true (.lst ds) = .own ds := rfl
@[simp] theorem slOf_d {ks : List Key} {ds : List D} : slOf true (.dK ks ds) = .ownD ks ds := rfl
@[simp] theorem slOf_t {ds : List D} : slOf true (.tup ds) = .val (.tup ds) := rfl
@[simp] theorem slOf_n : slOf true .non = .val .non := rfl
@[simp] theorem ixN_0 {n : Nat} : ixN n 0 = if 0 < n then some 0 else none := ixN_nat (k := 0)
@[simp] theorem ixN_1 {n : Nat} : ixN n 1 = if 1 < n then some 1 else none := ixN_nat (k := 1)
@[simp] theorem ixN_2 {n : Nat} : ixN n 2 = if 2 < n then some 2 else none := ixN_nat (k := 2)
@[simp] theorem ixN_3 {n : Nat} : ixN n 3 = if 3 < n then some 3 else none := ixN_nat (k := 3)
@[simp] theorem ixN_4 {n : Nat} : ixN n 4 = if 4 < n then some 4 else none := ixN_nat (k := 4)
@[simp] theorem ixN_5 {n : Nat} : ixN n 5 = if 5 < n then some 5 else none := ixN_nat (k := 5)
@[simp] theorem ixN_6 {n : Nat} : ixN n 6 = if 6 < n then some 6 else none := ixN_nat (k := 6)
@[simp] theorem ixN_7 {n : Nat} : ixN n 7 = if 7 < n then some 7 else none := ixN_nat (k := 7)
@[simp] theorem ixN_8 {n : Nat} : ixN n 8 = if 8 < n then some 8 else none := ixN_nat (k := 8)
@[simp] theorem ixN_9 {n : Nat} : ixN n 9 = if 9 < n then some 9 else none := ixN_nat (k := 9)
@[simp] theorem ixN_10 {n : Nat} : ixN n 10 = if 10 < n then some 10 else none := ixN_nat (k := 10)
@[simp] theorem ixN_11 {n : Nat} : ixN n 11 = if 11 < n then some 11 else none := ixN_nat (k := 11)
@[simp] theorem ixN_12 {n : Nat} : ixN n 12 = if 12 < n then some 12 else none := ixN_nat (k := 12)
@[simp] theorem ixN_13 {n : Nat} : ixN n 13 = if 13 < n then some 13 else none := ixN_nat (k := 13)
@[simp] theorem ixN_14 {n : Nat} : ixN n 14 = if 14 < n then some 14 else none := ixN_nat (k := 14)
@[simp] theorem ixN_15 {n : Nat} : ixN n 15 = if 15 < n then some 15 else none := ixN_nat (k := 15)
@[simp] theorem ixN_natS {n k : Nat} : ixN n ((k : Nat) : Int) = if k < n then some k else none := ixN_nat
@[simp] theorem ixN_m1 {n : Nat} : ixN n (-1) = if 0 < n then some (n - 1) else none := by
  unfold ixN
  rw [if_neg (by omega)]
  by_cases h : 0 < n
  · rw [if_pos (by omega), if_pos h]; congr 1; omega
  · rw [if_neg (by omega), if_neg h]
@[simp] theorem findF_cons {n : Str} {ns : List Str} {d : D} {ds : List D} {x : Str} : findF (n :: ns) (d :: ds) x = if x = n then some d else findF ns ds x := rfl
@[simp] theorem isMut_l {ds : List D} : isMut (.lst ds) = true := rfl
@[simp] theorem isMut_t {ds : List D} : isMut (.tup ds) = false := rfl
@[simp] theorem isMut_i {i : Int} : isMut (.int i) = false := rfl
@[simp] theorem isNon_n : isNon .non = true := rfl
@[simp] theorem isNon_i {i : Int} : isNon (.int i) = false := rfl
@[simp] theorem isNon_t {ds : List D} : isNon (.tup ds) = false := rfl
@[simp] theorem isNon_l {ds : List D} : isNon (.lst ds) = false := rfl
@[simp] theorem isNon_b {b : Bool} : isNon (.bl b) = false := rfl
@[simp] theorem isNon_s {s : Str} : isNon (.str s) = false := rfl
@[simp] theorem isNon_ins {k : Nat} {ns : List Str} {ds : List D} : isNon (.ins k ns ds) = false := rfl
@[simp] theorem isIns_ins {k : Nat} {ns : List Str} {ds : List D} : isIns (.ins k ns ds) = true := rfl
@[simp] theorem isFlat_b {b : Bool} : isFlat (.bl b) = true := rfl
@[simp] theorem isFlat_i {b : Int} : isFlat (.int b) = true := rfl
@[simp] theorem isFlat_n : isFlat .non = true := rfl
@[simp] theorem isFlat_s {s : Str} : isFlat (.str s) = true := rfl
@[simp] theorem neNil_c {d : D} {ds : List D} : neNil (d :: ds) = true := rfl
@[simp] theorem isSS_l {ds : List D} : isSS (.lst ds) = true := rfl
@[simp] theorem isSS_t {ds : List D} : isSS (.tup ds) = true := rfl
@[simp] theorem isSS_s {s : Str} : isSS (.str s) = true := rfl
@[simp] theorem small_iff {i : Int} : small i ↔ -18446744073709551616 < i ∧ i < 18446744073709551616 := Iff.rfl
@[simp] theorem near_iff {i : Int} : near i ↔ -4611686018427387904 ≤ i ∧ i < 4611686018427387904 := Iff.rfl
theorem small_or {a b : Int} (h : (-18446744073709551616 < a ∧ a < 18446744073709551616) ∨ (-18446744073709551616 < b ∧ b < 18446744073709551616)) : small a ∨ small b := h
end
end Mir
set_option Elab.async false
set_option linter.all false
set_option maxRecDepth 100000
set_option maxHeartbeats 4000000
/-! Wp3: == of data; what can be printed. -/
namespace Mir
open PySem L2 PySem.Spec PyProof.Rows
/-- laid out as data, no deeper than n -/
def LayN (n : Nat) (d : D) : Prop := ∃ p, toPD d = some p ∧ p.canLay0 = true ∧ p.depth ≤ n
theorem LayN.mono {n m : Nat} {d : D} (h : LayN n d) (l : n ≤ m) : LayN m d := by
  obtain ⟨p, h1, h2, h3⟩ := h
  exact ⟨p, h1, h2, Nat.le_trans h3 l⟩
theorem layN_all {n : Nat} : ∀ {ds : List D}, (∀ d ∈ ds, LayN n d) → ∃ ps, toPDs ds = some ps ∧ PyData.canLayAll0 ps = true ∧ PyData.depthAll ps ≤ n ∧ ps.length = ds.length
  | [], _ => ⟨[], rfl, by simp only [PyData.canLayAll0], Nat.zero_le _, rfl⟩
  | d :: ds, h => by
    obtain ⟨p, h1, h2, h3⟩ := h d List.mem_cons_self
    obtain ⟨ps, g1, g2, g3, g4⟩ := layN_all fun x hx => h x (List.mem_cons_of_mem _ hx)
    refine ⟨p :: ps, ?_, ?_, ?_, by simp [g4]⟩
    · unfold toPDs; rw [h1, g1]; rfl
    · simp only [PyData.canLayAll0, h2, g2, Bool.and_self]
    · simp only [PyData.depthAll]; omega
@[simp] theorem layN_non {n : Nat} : LayN n .non := ⟨.none, rfl, by simp only [PyData.canLay0], by simp only [PyData.depth]; omega⟩
@[simp] theorem layN_bl {n : Nat} {b : Bool} : LayN n (.bl b) := ⟨.bool b, rfl, by simp only [PyData.canLay0], by simp only [PyData.depth]; omega⟩
@[simp] theorem layN_int {n : Nat} {i : Int} : LayN n (.int i) := ⟨.int i, rfl, by simp only [PyData.canLay0], by simp only [PyData.depth]; omega⟩
theorem layN_str {n : Nat} {s : Str} (h : PyData.strOk s = true) : LayN n (.str s) := ⟨.str s, rfl, by simp only [PyData.canLay0, h], by simp only [PyData.depth]; omega⟩
theorem layN_tup {n : Nat} {ds : List D} (h : ∀ d ∈ ds, LayN n d) : LayN (n + 1) (.tup ds) := by
  obtain ⟨ps, h1, h2, h3, _⟩ := layN_all h
  refine ⟨.tuple ps, ?_, by simp only [PyData.canLay0, h2], by simp only [PyData.depth]; omega⟩
  show (toPDs ds).map PyData.tuple = _
  rw [h1]; rfl
theorem layN_lst {n : Nat} {ds : List D} (h : ∀ d ∈ ds, LayN n d) : LayN (n + 1) (.lst ds) := by
  obtain ⟨ps, h1, h2, h3, _⟩ := layN_all h
  refine ⟨.list ps, ?_, by simp only [PyData.canLay0, h2], by simp only [PyData.depth]; omega⟩
  show (toPDs ds).map PyData.list = _
  rw [h1]; rfl
theorem layN_map {n : Nat} {α : Type} {f : α → D} {xs : List α} (h : ∀ x ∈ xs, LayN n (f x)) : ∀ d ∈ xs.map f, LayN n d := fun d hd => by
  obtain ⟨x, m, rfl⟩ := List.mem_map.mp hd
  exact h x m
mutual
/-- == of data -/
def eqvD : D → D → Bool
  | .non, .non => true
  | .bl a, .bl b => a == b
  | .bl a, .int j => decide ((if a then 1 else 0) = j)
  | .int i, .bl b => decide (i = (if b then 1 else 0))
  | .int i, .int j => decide (i = j)
  | .str x, .str y => decide (x = y)
  | .lst xs, .lst ys => eqvDs xs ys
  | .tup xs, .tup ys => eqvDs xs ys
  | _, _ => false
def eqvDs : List D → List D → Bool
  | [], [] => true
  | x :: xs, y :: ys => eqvD x y && eqvDs xs ys
  | _, _ => false
end
theorem beqD {α : Type} [DecidableEq α] (a b : α) : (a == b) = decide (a = b) := rfl
mutual
theorem eqvD_eq : ∀ (x y : D) (p q : PyData), toPD x = some p → toPD y = some q → PyData.eqv p q = eqvD x y
  | .non, y, p, q, h, g => by cases h; cases y <;> first | (cases g; rfl) | (obtain ⟨z, _, rfl⟩ := Option.map_eq_some_iff.mp g; rfl) | cases g
  | .bl b, y, p, q, h, g => by cases h; cases y <;> first | (cases g; rfl) | (obtain ⟨z, _, rfl⟩ := Option.map_eq_some_iff.mp g; rfl) | cases g
  | .int i, y, p, q, h, g => by cases h; cases y <;> first | (cases g; rfl) | (obtain ⟨z, _, rfl⟩ := Option.map_eq_some_iff.mp g; rfl) | cases g
  | .str s, y, p, q, h, g => by cases h; cases y <;> first | (cases g; rfl) | (obtain ⟨z, _, rfl⟩ := Option.map_eq_some_iff.mp g; rfl) | cases g
  | .tup xs, y, p, q, h, g => by
    obtain ⟨ps, h1, rfl⟩ := Option.map_eq_some_iff.mp (show (toPDs xs).map PyData.tuple = some p from h)
    cases y with
    | tup ys =>
      obtain ⟨qs, g1, rfl⟩ := Option.map_eq_some_iff.mp (show (toPDs ys).map PyData.tuple = some q from g)
      exact eqvDs_eq xs ys ps qs h1 g1
    | lst ys => obtain ⟨qs, g1, rfl⟩ := Option.map_eq_some_iff.mp (show (toPDs ys).map PyData.list = some q from g); rfl
    | _ => first | (cases g; rfl) | cases g
  | .lst xs, y, p, q, h, g => by
    obtain ⟨ps, h1, rfl⟩ := Option.map_eq_some_iff.mp (show (toPDs xs).map PyData.list = some p from h)
    cases y with
    | lst ys =>
      obtain ⟨qs, g1, rfl⟩ := Option.map_eq_some_iff.mp (show (toPDs ys).map PyData.list = some q from g)
      exact eqvDs_eq xs ys ps qs h1 g1
    | tup ys => obtain ⟨qs, g1, rfl⟩ := Option.map_eq_some_iff.mp (show (toPDs ys).map PyData.tuple = some q from g); rfl
    | _ => first | (cases g; rfl) | cases g
  | .dK _ _, _, _, _, h, _ => by cases h
  | .ins _ _ _, _, _, _, h, _ => by cases h
  | .jar, _, _, _, h, _ => by cases h
  | .set _, _, _, _, h, _ => by cases h
  | .scr _, _, _, _, h, _ => by cases h
theorem eqvDs_eq : ∀ (xs ys : List D) (ps qs : List PyData), toPDs xs = some ps → toPDs ys = some qs → PyData.eqvAll ps qs = eqvDs xs ys
  | [], [], _, _, h, g => by cases h; cases g; rfl
  | [], y :: ys, ps, qs, h, g => by
    cases h
    obtain ⟨q, _, g2⟩ := Option.bind_eq_some_iff.mp (show (toPD y).bind (fun p => (toPDs ys).map fun ps => p :: ps) = some qs from g)
    obtain ⟨r, _, rfl⟩ := Option.map_eq_some_iff.mp g2
    rfl
  | x :: xs, [], ps, qs, h, g => by
    cases g
    obtain ⟨q, _, g2⟩ := Option.bind_eq_some_iff.mp (show (toPD x).bind (fun p => (toPDs xs).map fun ps => p :: ps) = some ps from h)
    obtain ⟨r, _, rfl⟩ := Option.map_eq_some_iff.mp g2
    rfl
  | x :: xs, y :: ys, ps, qs, h, g => by
    obtain ⟨p, h1, h2⟩ := Option.bind_eq_some_iff.mp (show (toPD x).bind (fun p => (toPDs xs).map fun ps => p :: ps) = some ps from h)
    obtain ⟨r, h3, rfl⟩ := Option.map_eq_some_iff.mp h2
    obtain ⟨q, g1, g2⟩ := Option.bind_eq_some_iff.mp (show (toPD y).bind (fun p => (toPDs ys).map fun ps => p :: ps) = some qs from g)
    obtain ⟨s, g3, rfl⟩ := Option.map_eq_some_iff.mp g2
    show (PyData.eqv p q && PyData.eqvAll r s) = (eqvD x y && eqvDs xs ys)
    rw [eqvD_eq x y p q h1 g1, eqvDs_eq xs ys r s h3 g3]
end
theorem deep_eq {j : List Int} {x y : D} {n m : Nat} (k : Bool → M D) (hx : LayN n x) (hy : LayN m y) (hn : n ≤ 64) (hm : m ≤ 64) : deepEq x y k j = k (eqvD x y) j := by
  obtain ⟨p, h1, h2, h3⟩ := hx
  obtain ⟨q, g1, g2, g3⟩ := hy
  unfold deepEq
  rw [h1, g1]
  dsimp only
  rw [need_pos ⟨by unfold SeqAt.shaped; rw [h2]; simp; omega, by unfold SeqAt.shaped; rw [g2]; simp; omega⟩, eqvD_eq x y p q h1 g1]
theorem eqW_tup {j : List Int} {xs ys : List D} {n m : Nat} (k : Bool → M D) (hx : LayN n (.tup xs)) (hy : LayN m (.tup ys)) (hn : n ≤ 64) (hm : m ≤ 64) : eqWith k (.tup xs) (.tup ys) j = k (eqvDs xs ys) j := deep_eq k hx hy hn hm
theorem eqW_lst {j : List Int} {xs ys : List D} {n m : Nat} (k : Bool → M D) (hx : LayN n (.lst xs)) (hy : LayN m (.lst ys)) (hn : n ≤ 64) (hm : m ≤ 64) : eqWith k (.lst xs) (.lst ys) j = k (eqvDs xs ys) j := deep_eq k hx hy hn hm
theorem eqvDs_map {α : Type} [DecidableEq α] {f : α → D} (h : ∀ x y, eqvD (f x) (f y) = decide (x = y)) : ∀ xs ys : List α, eqvDs (xs.map f) (ys.map f) = decide (xs = ys)
  | [], [] => rfl
  | [], y :: ys => rfl
  | x :: xs, [] => rfl
  | x :: xs, y :: ys => by
    show (eqvD (f x) (f y) && eqvDs (xs.map f) (ys.map f)) = _
    rw [h, eqvDs_map h xs ys]
    by_cases a : x = y <;> by_cases b : xs = ys <;> simp [a, b]
theorem eqvD_int (x y : Int) : eqvD (.int x) (.int y) = decide (x = y) := rfl
def Ti (xs : List Int) : D := .tup (xs.map .int)
def T2 (e : Int × Int) : D := .tup [.int e.1, .int e.2]
theorem eqvD_Ti (xs ys : List Int) : eqvD (Ti xs) (Ti ys) = decide (xs = ys) := eqvDs_map eqvD_int xs ys
theorem eqvD_T2 (x y : Int × Int) : eqvD (T2 x) (T2 y) = decide (x = y) := by
  show (decide (x.1 = y.1) && (decide (x.2 = y.2) && true)) = _
  by_cases a : x.1 = y.1 <;> by_cases b : x.2 = y.2 <;> simp [a, b, Prod.ext_iff]
theorem lay_Ti {xs : List Int} {n : Nat} : LayN (n + 1) (Ti xs) := layN_tup (layN_map fun _ _ => layN_int)
theorem lay_T2 {e : Int × Int} {n : Nat} : LayN (n + 1) (T2 e) := layN_tup fun d hd => by
  simp only [List.mem_cons, List.not_mem_nil, or_false] at hd
  rcases hd with rfl | rfl <;> simp
section
variable {j : List Int} {Q : D → List Int → Prop}
theorem wp_eqTi {xs ys : List Int} : wp (dEq (Ti xs) (Ti ys) j) Q = Q (.bl (decide (xs = ys))) j := by
  unfold dEq Ti
  rw [eqW_tup (n := 1) (m := 1) _ lay_Ti lay_Ti (by omega) (by omega), ← eqvD_Ti xs ys]; rfl
theorem wp_neTi {xs ys : List Int} : wp (dNe (Ti xs) (Ti ys) j) Q = Q (.bl (!decide (xs = ys))) j := by
  unfold dNe Ti
  rw [eqW_tup (n := 1) (m := 1) _ lay_Ti lay_Ti (by omega) (by omega), ← eqvD_Ti xs ys]; rfl
/-- a list beside the empty one -/
theorem eqvDs_nil (ds : List D) : eqvDs ds [] = ds.isEmpty := by cases ds <;> rfl
theorem wp_eqNil {ds : List D} (h : ∀ d ∈ ds, LayN 60 d) : wp (dEq (.lst ds) (.lst []) j) Q = Q (.bl ds.isEmpty) j := by
  unfold dEq
  rw [eqW_lst (n := 61) (m := 1) _ (layN_lst h) (layN_lst (n := 0) fun d hd => (List.not_mem_nil hd).elim) (by omega) (by omega), eqvDs_nil]; rfl
theorem wp_neNil {ds : List D} (h : ∀ d ∈ ds, LayN 60 d) : wp (dNe (.lst ds) (.lst []) j) Q = Q (.bl (!ds.isEmpty)) j := by
  unfold dNe
  rw [eqW_lst (n := 61) (m := 1) _ (layN_lst h) (layN_lst (n := 0) fun d hd => (List.not_mem_nil hd).elim) (by omega) (by omega), eqvDs_nil]; rfl
end
@[simp] theorem permL_eq {α : Type} {z : α} {π : List Nat} {l : List α} : permL z π l = π.map fun i => (l[i]?).getD z := rfl
theorem eqW_bl {j : List Int} {k : Bool → M D} {a b : Bool} : eqWith k (.bl a) (.bl b) j = k (decide (a = b)) j := by
  unfold eqWith
  show (if scal (V.bl a) (V.bl b) = true then k (decide (V.bl a = V.bl b)) else deepEq (.bl a) (.bl b) k) j = _
  rw [if_pos (show scal (V.bl a) (V.bl b) = true from rfl)]
  have e : decide (V.bl a = V.bl b) = decide (a = b) := by
    by_cases h : a = b
    · subst h; simp
    · rw [decide_eq_false h, decide_eq_false fun z => h (V.bl.inj z)]
  rw [e]
@[simp ↓] theorem wp_eqB {j : List Int} {Q : D → List Int → Prop} {a b : Bool} : wp (dEq (.bl a) (.bl b) j) Q = Q (.bl (decide (a = b))) j := by unfold dEq; rw [eqW_bl]; rfl
@[simp ↓] theorem wp_neB {j : List Int} {Q : D → List Int → Prop} {a b : Bool} : wp (dNe (.bl a) (.bl b) j) Q = Q (.bl (!decide (a = b))) j := by unfold dNe; rw [eqW_bl]; rfl
/-- a list by its end -/
theorem ixLast {ds : List D} (h : ds ≠ []) : ∃ d ∈ ds, ∀ (j : List Int) (Q : D → List Int → Prop), wp (dIx (.lst ds) (.int (-1)) j) Q = Q d j := by
  have hl : 0 < ds.length := List.length_pos_iff.mpr h
  refine ⟨ds[ds.length - 1]'(by omega), List.getElem_mem _, fun j Q => ?_⟩
  rw [wp_ixL, ixN_m1, if_pos hl]
  dsimp only
  rw [List.getElem?_eq_getElem (by omega)]
theorem ixSome {n : Nat} {i : Int} (h0 : 0 ≤ i) (h1 : i < n) : ∃ k : Nat, k < n ∧ ixN n i = some k ∧ i = k := by
  obtain ⟨k, rfl⟩ := Int.eq_ofNat_of_zero_le h0
  exact ⟨k, by omega, by rw [ixN_nat, if_pos (by omega)], rfl⟩
/-- a list by an int within -/
theorem ixAny {ds : List D} {i : Int} (h0 : 0 ≤ i) (h1 : i < ds.length) : ∃ d ∈ ds, ∀ (j : List Int) (Q : D → List Int → Prop), wp (dIx (.lst ds) (.int i) j) Q = Q d j := by
  obtain ⟨k, rfl⟩ := Int.eq_ofNat_of_zero_le h0
  refine ⟨ds[k]'(by omega), List.getElem_mem _, fun j Q => ?_⟩
  exact wp_ixLn (List.getElem?_eq_getElem (by omega))
theorem zipD_map {α β : Type} (f : α → D) (g : β → D) : ∀ (xs : List α) (ys : List β), zipD (xs.map f) (ys.map g) = (xs.zip ys).map fun q => .tup [f q.1, g q.2]
  | [], _ => rfl
  | _ :: _, [] => rfl
  | x :: xs, y :: ys => by
    show _ :: zipD (xs.map f) (ys.map g) = _
    rw [zipD_map f g xs ys]; rfl
theorem numD_map {α : Type} (f : α → D) : ∀ (xs : List α) (n : Nat), numD n (xs.map f) = (xs.zipIdx n).map fun q => .tup [.int (q.2 : Nat), f q.1]
  | [], _ => rfl
  | x :: xs, n => by
    rw [List.map_cons, List.zipIdx_cons, List.map_cons]
    unfold numD
    rw [numD_map f xs (n + 1)]
end Mir
set_option Elab.async false
set_option linter.all false
set_option maxRecDepth 100000
set_option maxHeartbeats 4000000
namespace Mir
open PySem L2
def top (i : Nat) : Stmt := PySem.Challenge.pw_toldtallies_k73_whole_profiles_by_trying.main.body.getD i (.Pass ⟨0, 0, 0, 0⟩)
abbrev known : List Nat := [6]
structure Txt (c : RC) (K : PySem.W.Frag) (w : World) (mg : Str → Option Value) (fa : Nat → Addr) (fd : Nat → FuncData) : Prop where
  n_abs : mg "abs" = none
  n_all : mg "all" = none
  n_bool : mg "bool" = none
  n_divmod : mg "divmod" = none
  n_enumerate : mg "enumerate" = none
  n_int : mg "int" = none
  n_isinstance : mg "isinstance" = none
  n_len : mg "len" = none
  n_list : mg "list" = none
  n_max : mg "max" = none
  n_min : mg "min" = none
  n_range : mg "range" = none
  n_repr : mg "repr" = none
  n_str : mg "str" = none
  n_sum : mg "sum" = none
  n_tuple : mg "tuple" = none
  n_zip : mg "zip" = none
  k_bool : ∀ k ∈ known, NotB c .bool k
  k_int : ∀ k ∈ known, NotB c .int k
  k_tuple : ∀ k ∈ known, NotB c .tup k
  c_MOST_NUMBER : GRep c mg "MOST_NUMBER" (.int 4000)
  c_MOST_VOTERS : GRep c mg "MOST_VOTERS" (.int 60)
  c_NAMES : GRep c mg "NAMES" (.tup [(.str "a"), (.str "b"), (.str "c")])
  c_ORDERS : GRep c mg "ORDERS" (.tup [(.str "abc"), (.str "acb"), (.str "bac"), (.str "bca"), (.str "cab"), (.str "cba")])
  i_Votes : mg "Votes" = some (.ref (c.cls 6)) ∧ ClsI c 6 known
  cl_Votes : Cls K (c.cls 6)
  x_Votes : mg "Votes" = some (.ref (c.cls 6))
  mk_Votes : Mk K (c.cls 6) (fa 16)
  fl_own_firsts : FldT c known "own_firsts"
  fl_own_pairs : FldT c known "own_pairs"
  fl_own_people : FldT c known "own_people"
  fl_own_text : FldT c known "own_text"
  fl_own_voters : FldT c known "own_voters"
  p_31_4 : ∃ p, PropOf K (c.cls 6) "firsts" p (fa 23)
  p_31_3 : ∃ p, PropOf K (c.cls 6) "pairs" p (fa 18)
  p_31_2 : ∃ p, PropOf K (c.cls 6) "people" p (fa 19)
  kw_37_0_value_votes : KwT K (fd 32) ["votes", "value"] ["value", "votes"] 0 [1, 0]
  kw_40_0_votes : KwT K (fd 27) ["votes"] ["votes"] 0 [0]
  kw_41_0_votes : KwT K (fd 26) ["votes"] ["votes"] 0 [0]
  d_44 : DefT K mg "_law_draw" "_law_draw" (top 44) ["well", "top"] (fa 0) (fd 0)
  d_47 : DefT K mg "_law_profile" "_law_profile" (top 47) ["well", "people"] (fa 1) (fd 1)
  d_46 : DefT K mg "_law_counted" "_law_counted" (top 46) ["profile"] (fa 2) (fd 2)
  d_48 : DefT K mg "_law_around" "_law_around" (top 48) ["well", "own", "people"] (fa 3) (fd 3)
  d_49 : DefT K mg "_law_plan" "_law_plan" (top 49) ["well", "people"] (fa 4) (fd 4)
  d_50 : DefT K mg "_law_is_in" "_law_is_in" (top 50) ["numbers", "stretches"] (fa 5) (fd 5)
  d_11 : DefT K mg "is_integer" "is_integer" (top 11) ["value"] (fa 6) (fd 6)
  d_12 : DefT K mg "is_within" "is_within" (top 12) ["value", "least", "greatest"] (fa 7) (fd 7)
  d_25 : DefT K mg "check_people_to" "check_people_to" (top 25) ["value", "most"] (fa 8) (fd 8)
  d_13 : DefT K mg "is_natural" "is_natural" (top 13) ["value"] (fa 9) (fd 9)
  d_14 : DefT K mg "is_tuple_of" "is_tuple_of" (top 14) ["value", "many"] (fa 10) (fd 10)
  d_15 : DefT K mg "are_naturals" "are_naturals" (top 15) ["value", "many"] (fa 11) (fd 11)
  d_20 : DefT K mg "is_stretch" "is_stretch" (top 20) ["value"] (fa 12) (fd 12)
  d_29 : DefT K mg "check_firsts" "check_firsts" (top 29) ["value"] (fa 13) (fd 13)
  d_22 : DefT K mg "written_stretch" "written_stretch" (top 22) ["stretch"] (fa 14) (fd 14)
  d_18 : DefT K mg "numbers_text" "numbers_text" (top 18) ["numbers"] (fa 15) (fd 15)
  d_31_0 : MefT K "__init__" "Votes.__init__" (inClass (top 31) 0) ["self", "people", "pairs", "firsts"] (fa 16) (fd 16)
  d_30 : DefT K mg "check_votes" "check_votes" (top 30) ["value"] (fa 17) (fd 17)
  d_31_3 : MefT K "pairs" "Votes.pairs" (inClass (top 31) 3) ["self"] (fa 18) (fd 18)
  d_31_2 : MefT K "people" "Votes.people" (inClass (top 31) 2) ["self"] (fa 19) (fd 19)
  d_38 : DefT K mg "profile_with" "profile_with" (top 38) ["votes", "abc", "acb"] (fa 20) (fd 20)
  d_21 : DefT K mg "lies_in" "lies_in" (top 21) ["value", "stretch"] (fa 21) (fd 21)
  d_36 : DefT K mg "are_within" "are_within" (top 36) ["numbers", "stretches"] (fa 22) (fd 22)
  d_31_4 : MefT K "firsts" "Votes.firsts" (inClass (top 31) 4) ["self"] (fa 23) (fd 23)
  d_34 : DefT K mg "firsts_of" "firsts_of" (top 34) ["profile"] (fa 24) (fd 24)
  d_39 : DefT K mg "all_profiles" "all_profiles" (top 39) ["votes"] (fa 25) (fd 25)
  d_41 : DefT K mg "profiles_number" "profiles_number" (top 41) ["votes"] (fa 26) (fd 26)
  d_40 : DefT K mg "first_profile" "first_profile" (top 40) ["votes"] (fa 27) (fd 27)
  d_45 : DefT K mg "_law_of" "_law_of" (top 45) ["well", "menu"] (fa 28) (fd 28)
  d_54 : DefT K mg "_law_bent" "_law_bent" (top 54) ["well", "profile"] (fa 29) (fd 29)
  d_53 : DefT K mg "_law_is_one" "_law_is_one" (top 53) ["plan", "thing"] (fa 30) (fd 30)
  d_33 : DefT K mg "pairs_of" "pairs_of" (top 33) ["profile"] (fa 31) (fd 31)
  d_37 : DefT K mg "is_profile" "is_profile" (top 37) ["votes", "value"] (fa 32) (fd 32)
  d_55 : DefT K mg "_law_told_right" "_law_told_right" (top 55) ["well", "plan", "every"] (fa 33) (fd 33)
  d_51 : DefT K mg "_law_tried" "_law_tried" (top 51) ["plan"] (fa 34) (fd 34)
  d_52 : DefT K mg "_law_rings" "_law_rings" (top 52) ["plan"] (fa 35) (fd 35)
  d_56 : DefT K mg "_law_right" "_law_right" (top 56) ["well"] (fa 36) (fd 36)
  d_43 : DefT K mg "_law_well" "_law_well" (top 43) ["script", "k"] (fa 37) (fd 37)
  d_57 : DefT K mg "law" "law" (top 57) ["script"] (fa 38) (fd 38)
theorem Txt.at {c : RC} {K : PySem.W.Frag} {w : World} {mg : Str → Option Value} {fa : Nat → Addr} {fd : Nat → FuncData} (T : Txt c K w mg fa fd) (y : Addr) : Txt (c.at y) K w mg fa fd :=
  ⟨T.n_abs, T.n_all, T.n_bool, T.n_divmod, T.n_enumerate, T.n_int, T.n_isinstance, T.n_len, T.n_list, T.n_max, T.n_min, T.n_range, T.n_repr, T.n_str, T.n_sum, T.n_tuple, T.n_zip, fun k h => (T.k_bool k h).at y, fun k h => (T.k_int k h).at y, fun k h => (T.k_tuple k h).at y, T.c_MOST_NUMBER.at y, T.c_MOST_VOTERS.at y, T.c_NAMES.at y, T.c_ORDERS.at y, ⟨T.i_Votes.1, T.i_Votes.2.at y⟩, T.cl_Votes, T.x_Votes, T.mk_Votes, T.fl_own_firsts, T.fl_own_pairs, T.fl_own_people, T.fl_own_text, T.fl_own_voters, T.p_31_4, T.p_31_3, T.p_31_2, T.kw_37_0_value_votes, T.kw_40_0_votes, T.kw_41_0_votes, T.d_44, T.d_47, T.d_46, T.d_48, T.d_49, T.d_50, T.d_11, T.d_12, T.d_25, T.d_13, T.d_14, T.d_15, T.d_20, T.d_29, T.d_22, T.d_18, T.d_31_0, T.d_30, T.d_31_3, T.d_31_2, T.d_38, T.d_21, T.d_36, T.d_31_4, T.d_34, T.d_39, T.d_41, T.d_40, T.d_45, T.d_54, T.d_53, T.d_33, T.d_37, T.d_55, T.d_51, T.d_52, T.d_56, T.d_43, T.d_57⟩
theorem Txt.wj {c : RC} {K : PySem.W.Frag} {w : World} {mg : Str → Option Value} {fa : Nat → Addr} {fd : Nat → FuncData} (nj : c.has = false) (T : Txt c K w mg fa fd) (y : Addr) : Txt (c.wj y) K w mg fa fd :=
  ⟨T.n_abs, T.n_all, T.n_bool, T.n_divmod, T.n_enumerate, T.n_int, T.n_isinstance, T.n_len, T.n_list, T.n_max, T.n_min, T.n_range, T.n_repr, T.n_str, T.n_sum, T.n_tuple, T.n_zip, fun k h => (T.k_bool k h).wj y, fun k h => (T.k_int k h).wj y, fun k h => (T.k_tuple k h).wj y, T.c_MOST_NUMBER.wj nj y, T.c_MOST_VOTERS.wj nj y, T.c_NAMES.wj nj y, T.c_ORDERS.wj nj y, ⟨T.i_Votes.1, T.i_Votes.2.wj y⟩, T.cl_Votes, T.x_Votes, T.mk_Votes, T.fl_own_firsts, T.fl_own_pairs, T.fl_own_people, T.fl_own_text, T.fl_own_voters, T.p_31_4, T.p_31_3, T.p_31_2, T.kw_37_0_value_votes, T.kw_40_0_votes, T.kw_41_0_votes, T.d_44, T.d_47, T.d_46, T.d_48, T.d_49, T.d_50, T.d_11, T.d_12, T.d_25, T.d_13, T.d_14, T.d_15, T.d_20, T.d_29, T.d_22, T.d_18, T.d_31_0, T.d_30, T.d_31_3, T.d_31_2, T.d_38, T.d_21, T.d_36, T.d_31_4, T.d_34, T.d_39, T.d_41, T.d_40, T.d_45, T.d_54, T.d_53, T.d_33, T.d_37, T.d_55, T.d_51, T.d_52, T.d_56, T.d_43, T.d_57⟩
section
variable {P : Program} {w : World} {K : PySem.W.Frag} {mg : Str → Option Value} {base : Heap} {fa : Nat → Addr} {fd : Nat → FuncData} {c : RC}
/-! ### _law_draw -/
def N_44 : List Str := ["well", "top", "old", "figure"]
def m_44 : Env → M Fl := (mSeq (mAsg (mBin dAdd (mBin dJx (mVar .look 0) (mC (.int 2))) (mC (.int 1))) (gJx 0 (mC (.int 2)))) (mSeq (mSet 2 (mCl dInt (mCons (mBin dJx (mVar .look 0) (mC (.int 1))) mNil))) (mSeq (mAsg (mBin dMod (mCl dInt (mCons (mBin dAdd (mBin dAdd (mBin dMul (mVar .look 2) (mBin dAdd (mBin dMod (mCl dInt (mCons (mVar .look 2) mNil)) (mC (.int 27011))) (mC (.int 8009)))) (mBin dMul (mC (.int 10211)) (mBin dJx (mVar .look 0) (mC (.int 2))))) (mC (.int 41))) mNil)) (mC (.int 2147483423))) (gJx 0 (mC (.int 1)))) (mSeq (mIf (mAsB (mBin dGt (mBin dJx (mVar .look 0) (mC (.int 0))) (mC (.int 0)))) (mSeq (mAsg (mCl dDivmod (mCons (mBin dJx (mVar .look 0) (mC (.int 0))) (mCons (mVar .look 1) mNil))) (gTupD 2 (gsCons (gJx 0 (mC (.int 0))) (gsCons (gN 3) gsNil)))) (mSeq (mRet (mVar .keep 3)) mNext)) mNext) (mSeq (mRet (mBin dMod (mCl dInt (mCons (mBin dFdiv (mBin dJx (mVar .look 0) (mC (.int 1))) (mC (.int 97))) mNil)) (mVar .look 1))) mNext)))))
def f_44 : List D → M D := mDef 4 m_44
theorem sc_44 : FnScope N_44 ["well", "top"] (defScope (top 44)) := ⟨rfl, rfl, rfl, by decide +kernel, rfl, by decide +kernel, by decide +kernel⟩
theorem ok_44 (hK : K = c.K) (T : Txt c K w mg fa fd) : FnOk P w K mg base (L2.CX P w) 1 (fa 0) (fd 0) ["well", "top"] (spD c 2 f_44) :=
  fn_ok T.d_44.F sc_44 fun cdv A outer s H E B hr => by
    have hu := hr.units
    have hu65 := hr.units65
    have nd := sc_44.nd
    exact (mss_cons (ms_asg (me_add hK (me_jix (me_var (i := 0)) me_int) me_int) (mg_jix (W := fun cls d _ H => E cls d H) (i := 0) me_int)) (mss_cons (ms_set (i := 2) (me_callTy call_int1 ok_int T.n_int (ml_cons (me_jix (me_var (i := 0)) me_int) ml_nil) rfl) nd) (mss_cons (ms_asg (me_mod (me_callTy call_int1 ok_int T.n_int (ml_cons (me_add hK (me_add hK (me_mul hK (me_var (i := 2)) (me_add hK (me_mod (me_callTy call_int1 ok_int T.n_int (ml_cons (me_var (i := 2)) ml_nil) rfl) me_int) me_int)) (me_mul hK me_int (me_jix (me_var (i := 0)) me_int))) me_int) ml_nil) rfl) me_int) (mg_jix (W := fun cls d _ H => E cls d H) (i := 0) me_int)) (mss_cons (ms_if (mt_cmp op_gt ok_gt (me_jix (me_var (i := 0)) me_int) me_int rfl) (mss_cons (ms_asg (me_callB call_divmodF ok_divmod T.n_divmod (ml_cons (me_jix (me_var (i := 0)) me_int) (ml_cons (me_var (i := 1)) ml_nil)) rfl) (mg_tup hK rfl (mgs_cons (mg_jix (W := fun cls d _ H => E cls d H) (i := 0) me_int) (mgs_cons (mg_name (i := 3) nd) mgs_nil)))) (mss_cons (ms_ret (me_var (i := 3))) mss_nil)) mss_nil) (mss_cons (ms_ret (me_mod (me_callTy call_int1 ok_int T.n_int (ml_cons (me_fdiv (me_jix (me_var (i := 0)) me_int) me_int) ml_nil) rfl) (me_var (i := 1)))) mss_nil)))))
/-! ### _law_profile -/
def N_47 : List Str := ["well", "people", "found", "rest", "turn", "own", "k"]
def m_47 : Env → M Fl := (mSeq (mPar [2, 3] [true, false] (mCons (mBin dMul (mLst (mCons (mC (.int 0)) mNil)) (mC (.int 6))) (mCons (mVar .keep 1) mNil))) (mSeq (mFor (mRng1 (mBin dAdd (mC (.int 1)) (mCall 2 f_44 (mCons (mVar .keep 0) (mCons (mC (.int 12)) mNil))))) (gN 4) (mSeq (mSet 5 (mCall 2 f_44 (mCons (mVar .keep 0) (mCons (mBin dAdd (mCl dMin (mCons (mVar .look 3) (mCons (mBin dAdd (mC (.int 1)) (mBin dFdiv (mVar .look 1) (mC (.int 3)))) mNil))) (mC (.int 1))) mNil)))) (mSeq (mSet 6 (mCall 2 f_44 (mCons (mVar .keep 0) (mCons (mC (.int 6)) mNil)))) (mSeq (mAsg (mBin dAdd (mBin dIx (mVar .look 2) (mVar .look 6)) (mVar .look 5)) (gIxL 2 (mVar .look 6))) (mSeq (mSet 3 (mBin dSub (mVar .look 3) (mVar .look 5))) mNext))))) (mSeq (mSet 6 (mCall 2 f_44 (mCons (mVar .keep 0) (mCons (mC (.int 6)) mNil)))) (mSeq (mAsg (mBin dAdd (mBin dIx (mVar .look 2) (mVar .look 6)) (mVar .look 3)) (gIxL 2 (mVar .look 6))) (mSeq (mRet (mCl dTupF (mCons (mVar .look 2) mNil))) mNext)))))
def f_47 : List D → M D := mDef 7 m_47
theorem sc_47 : FnScope N_47 ["well", "people"] (defScope (top 47)) := ⟨rfl, rfl, rfl, by decide +kernel, rfl, by decide +kernel, by decide +kernel⟩
theorem ok_47 (hK : K = c.K) (T : Txt c K w mg fa fd) : FnOk P w K mg base (L2.CX P w) 2 (fa 1) (fd 1) ["well", "people"] (spD c 2 f_47) :=
  fn_ok T.d_47.F sc_47 fun cdv A outer s H E B hr => by
    have hu := hr.units
    have hu65 := hr.units65
    have nd := sc_47.nd
    exact (mss_cons (by first | exact ms_par (i := 2) (k := 3) (fl := [true, false]) rfl nd (mf_cons (fun _ => (me_mul hK (me_lst (ma_cons me_int ma_nil)) me_int)) (mf_cons (fun _ => (me_var (i := 1))) mf_nil)) | exact ms_tup2 (i := 2) (k := 3) (fl := [true, false]) rfl nd (mf_cons (fun _ => (me_mul hK (me_lst (ma_cons me_int ma_nil)) me_int)) (mf_cons (fun _ => (me_var (i := 1))) mf_nil))) (mss_cons (ms_for (passes_of rfl) rfl (mi_range1 T.n_range (me_add hK me_int (me_look (me_call (ok_44 hK T) (hr.mono (by decide)) T.d_44.g T.d_44.kp T.d_44.b (takes_of rfl rfl rfl rfl) (ma_cons (me_var (i := 0)) (ma_cons me_int ma_nil)))))) (mg_name (i := 4) nd) (mss_cons (ms_set (i := 5) (me_call (ok_44 hK T) (hr.mono (by decide)) T.d_44.g T.d_44.kp T.d_44.b (takes_of rfl rfl rfl rfl) (ma_cons (me_var (i := 0)) (ma_cons (me_add hK (me_callB (cr_minA rfl) (ok_min hK) T.n_min (ml_cons (me_var (i := 3)) (ml_cons (me_add hK me_int (me_fdiv (me_var (i := 1)) me_int)) ml_nil)) rfl) me_int) ma_nil))) nd) (mss_cons (ms_set (i := 6) (me_call (ok_44 hK T) (hr.mono (by decide)) T.d_44.g T.d_44.kp T.d_44.b (takes_of rfl rfl rfl rfl) (ma_cons (me_var (i := 0)) (ma_cons me_int ma_nil))) nd) (mss_cons (ms_asg (me_add hK (me_look (me_ix hK hu (me_var (i := 2)) (me_var (i := 6)))) (me_var (i := 5))) (mg_ixL (W := fun cls d _ H => E cls d H) (i := 2) (me_var (i := 6)))) (mss_cons (ms_set (i := 3) (me_sub (me_var (i := 3)) (me_var (i := 5))) nd) mss_nil))))) (mss_cons (ms_set (i := 6) (me_call (ok_44 hK T) (hr.mono (by decide)) T.d_44.g T.d_44.kp T.d_44.b (takes_of rfl rfl rfl rfl) (ma_cons (me_var (i := 0)) (ma_cons me_int ma_nil))) nd) (mss_cons (ms_asg (me_add hK (me_look (me_ix hK hu (me_var (i := 2)) (me_var (i := 6)))) (me_var (i := 3))) (mg_ixL (W := fun cls d _ H => E cls d H) (i := 2) (me_var (i := 6)))) (mss_cons (ms_ret (me_callTy call_tupleF (ok_tupF hK) T.n_tuple (ml_cons (me_var (i := 2)) ml_nil) rfl)) mss_nil)))))
/-! ### _law_counted -/
def N_46 : List Str := ["profile", "abc", "acb", "bac", "bca", "cab", "cba"]
def m_46 : Env → M Fl := (mSeq (mAsg (mVar .keep 0) (gSeqD 6 (gsCons (gN 1) (gsCons (gN 2) (gsCons (gN 3) (gsCons (gN 4) (gsCons (gN 5) (gsCons (gN 6) gsNil)))))))) (mSeq (mRet (mLst (mCons (mTup (mCons (mBin dAdd (mBin dAdd (mVar .look 1) (mVar .look 2)) (mVar .look 5)) (mCons (mBin dAdd (mBin dAdd (mVar .look 1) (mVar .look 3)) (mVar .look 4)) (mCons (mBin dAdd (mBin dAdd (mVar .look 4) (mVar .look 5)) (mVar .look 6)) mNil)))) (mCons (mTup (mCons (mBin dAdd (mVar .look 1) (mVar .look 2)) (mCons (mBin dAdd (mVar .look 3) (mVar .look 4)) (mCons (mBin dAdd (mVar .look 5) (mVar .look 6)) mNil)))) mNil)))) mNext))
def f_46 : List D → M D := mDef 7 m_46
theorem sc_46 : FnScope N_46 ["profile"] (defScope (top 46)) := ⟨rfl, rfl, rfl, by decide +kernel, rfl, by decide +kernel, by decide +kernel⟩
theorem ok_46 (hK : K = c.K) (T : Txt c K w mg fa fd) : FnOk P w K mg base (L2.CX P w) 1 (fa 2) (fd 2) ["profile"] (spD c 1 f_46) :=
  fn_ok T.d_46.F sc_46 fun cdv A outer s H E B hr => by
    have hu := hr.units
    have hu65 := hr.units65
    have nd := sc_46.nd
    exact (mss_cons (ms_asg (me_var (i := 0)) (mg_seq hK rfl (mgs_cons (mg_name (i := 1) nd) (mgs_cons (mg_name (i := 2) nd) (mgs_cons (mg_name (i := 3) nd) (mgs_cons (mg_name (i := 4) nd) (mgs_cons (mg_name (i := 5) nd) (mgs_cons (mg_name (i := 6) nd) mgs_nil)))))))) (mss_cons (ms_ret (me_lst (ma_cons (me_tup (ma_cons (me_add hK (me_add hK (me_var (i := 1)) (me_var (i := 2))) (me_var (i := 5))) (ma_cons (me_add hK (me_add hK (me_var (i := 1)) (me_var (i := 3))) (me_var (i := 4))) (ma_cons (me_add hK (me_add hK (me_var (i := 4)) (me_var (i := 5))) (me_var (i := 6))) ma_nil)))) (ma_cons (me_tup (ma_cons (me_add hK (me_var (i := 1)) (me_var (i := 2))) (ma_cons (me_add hK (me_var (i := 3)) (me_var (i := 4))) (ma_cons (me_add hK (me_var (i := 5)) (me_var (i := 6))) ma_nil)))) ma_nil)))) mss_nil))
/-! ### _law_around -/
def N_48 : List Str := ["well", "own", "people", "way", "far"]
def m_48 : Env → M Fl := (mSeq (mPar [3, 4] [false, false] (mCons (mCall 2 f_44 (mCons (mVar .keep 0) (mCons (mC (.int 8)) mNil))) (mCons (mCall 2 f_44 (mCons (mVar .keep 0) (mCons (mC (.int 4)) mNil))) mNil))) (mSeq (mIf (mAsB (mBin dLt (mVar .look 3) (mC (.int 4)))) (mSeq (mRet (mTup (mCons (mC (.int 0)) (mCons (mVar .keep 2) mNil)))) mNext) mNext) (mSeq (mIf (mAsB (mBin dEq (mVar .look 3) (mC (.int 4)))) (mSeq (mRet (mTup (mCons (mVar .keep 1) (mCons (mVar .keep 1) mNil)))) mNext) mNext) (mSeq (mIf (mAsB (mBin dLt (mVar .look 3) (mC (.int 7)))) (mSeq (mRet (mTup (mCons (mCl dMax (mCons (mC (.int 0)) (mCons (mBin dSub (mVar .look 1) (mVar .look 4)) mNil))) (mCons (mBin dAdd (mVar .look 1) (mCall 2 f_44 (mCons (mVar .keep 0) (mCons (mC (.int 4)) mNil)))) mNil)))) mNext) mNext) (mSeq (mRet (mTup (mCons (mVar .keep 4) (mCons (mBin dAdd (mVar .look 4) (mCall 2 f_44 (mCons (mVar .keep 0) (mCons (mBin dAdd (mVar .look 2) (mC (.int 1))) mNil)))) mNil)))) mNext)))))
def f_48 : List D → M D := mDef 5 m_48
theorem sc_48 : FnScope N_48 ["well", "own", "people"] (defScope (top 48)) := ⟨rfl, rfl, rfl, by decide +kernel, rfl, by decide +kernel, by decide +kernel⟩
theorem ok_48 (hK : K = c.K) (T : Txt c K w mg fa fd) : FnOk P w K mg base (L2.CX P w) 2 (fa 3) (fd 3) ["well", "own", "people"] (spD c 3 f_48) :=
  fn_ok T.d_48.F sc_48 fun cdv A outer s H E B hr => by
    have hu := hr.units
    have hu65 := hr.units65
    have nd := sc_48.nd
    exact (mss_cons (by first | exact ms_par (i := 3) (k := 4) (fl := [false, false]) rfl nd (mf_cons (fun _ => (me_call (ok_44 hK T) (hr.mono (by decide)) T.d_44.g T.d_44.kp T.d_44.b (takes_of rfl rfl rfl rfl) (ma_cons (me_var (i := 0)) (ma_cons me_int ma_nil)))) (mf_cons (fun _ => (me_call (ok_44 hK T) (hr.mono (by decide)) T.d_44.g T.d_44.kp T.d_44.b (takes_of rfl rfl rfl rfl) (ma_cons (me_var (i := 0)) (ma_cons me_int ma_nil)))) mf_nil)) | exact ms_tup2 (i := 3) (k := 4) (fl := [false, false]) rfl nd (mf_cons (fun _ => (me_call (ok_44 hK T) (hr.mono (by decide)) T.d_44.g T.d_44.kp T.d_44.b (takes_of rfl rfl rfl rfl) (ma_cons (me_var (i := 0)) (ma_cons me_int ma_nil)))) (mf_cons (fun _ => (me_call (ok_44 hK T) (hr.mono (by decide)) T.d_44.g T.d_44.kp T.d_44.b (takes_of rfl rfl rfl rfl) (ma_cons (me_var (i := 0)) (ma_cons me_int ma_nil)))) mf_nil))) (mss_cons (ms_if (mt_cmp op_lt ok_lt (me_var (i := 3)) me_int rfl) (mss_cons (ms_ret (me_tup (ma_cons me_int (ma_cons (me_var (i := 2)) ma_nil)))) mss_nil) mss_nil) (mss_cons (ms_if (mt_cmp (op_eqA hu) (ok_eq hK) (me_var (i := 3)) me_int rfl) (mss_cons (ms_ret (me_tup (ma_cons (me_var (i := 1)) (ma_cons (me_var (i := 1)) ma_nil)))) mss_nil) mss_nil) (mss_cons (ms_if (mt_cmp op_lt ok_lt (me_var (i := 3)) me_int rfl) (mss_cons (ms_ret (me_tup (ma_cons (me_callB (cr_maxA rfl) (ok_max hK) T.n_max (ml_cons me_int (ml_cons (me_sub (me_var (i := 1)) (me_var (i := 4))) ml_nil)) rfl) (ma_cons (me_add hK (me_var (i := 1)) (me_look (me_call (ok_44 hK T) (hr.mono (by decide)) T.d_44.g T.d_44.kp T.d_44.b (takes_of rfl rfl rfl rfl) (ma_cons (me_var (i := 0)) (ma_cons me_int ma_nil))))) ma_nil)))) mss_nil) mss_nil) (mss_cons (ms_ret (me_tup (ma_cons (me_var (i := 4)) (ma_cons (me_add hK (me_var (i := 4)) (me_look (me_call (ok_44 hK T) (hr.mono (by decide)) T.d_44.g T.d_44.kp T.d_44.b (takes_of rfl rfl rfl rfl) (ma_cons (me_var (i := 0)) (ma_cons (me_add hK (me_var (i := 2)) me_int) ma_nil))))) ma_nil)))) mss_nil)))))
/-! ### _law_plan -/
def N_49 : List Str := ["well", "people", "profile", "way", "at", "pairs", "firsts", "turn", "own"]
def m_49 : Env → M Fl := (mSeq (mPar [2, 3, 4] [false, false, false] (mCons (mCall 2 f_47 (mCons (mVar .keep 0) (mCons (mVar .keep 1) mNil))) (mCons (mCall 2 f_44 (mCons (mVar .keep 0) (mCons (mC (.int 8)) mNil))) (mCons (mCall 2 f_44 (mCons (mVar .keep 0) (mCons (mC (.int 3)) mNil))) mNil)))) (mSeq (mAsg (mCall 1 f_46 (mCons (mVar .keep 2) mNil)) (gSeqD 2 (gsCons (gN 5) (gsCons (gN 6) gsNil)))) (mSeq (mIf (mAsB (mBin dEq (mVar .look 3) (mC (.int 0)))) (mSeq (mSet 5 (mCl dTupF (mCons (mComp [7] (mRng1 (mC (.int 3))) (gN 7) mYes (mCall 2 f_44 (mCons (mVar .keep 0) (mCons (mBin dAdd (mVar .look 1) (mC (.int 2))) mNil)))) mNil))) mNext) mNext) (mSeq (mIf (mAsB (mBin dEq (mVar .look 3) (mC (.int 1)))) (mSeq (mSet 5 (mBin dAdd (mBin dAdd (mSl (mVar .look 5) mNo (mYesI (mVar .look 4))) (mTup (mCons (mBin dAdd (mBin dIx (mVar .look 5) (mVar .look 4)) (mC (.int 1))) mNil))) (mSl (mVar .look 5) (mYesI (mBin dAdd (mVar .look 4) (mC (.int 1)))) mNo))) mNext) mNext) (mSeq (mIf (mAsB (mBin dEq (mVar .look 3) (mC (.int 2)))) (mSeq (mRet (mLst (mCons (mVar .keep 1) (mCons (mVar .keep 5) (mCons (mBin dMulT (mTup (mCons (mTup (mCons (mC (.int 0)) (mCons (mVar .keep 1) mNil))) mNil)) (mC (.int 3))) mNil))))) mNext) mNext) (mSeq (mRet (mLst (mCons (mVar .keep 1) (mCons (mVar .keep 5) (mCons (mCl dTupF (mCons (mComp [8] (mSeqA (mVar .keep 6)) (gN 8) mYes (mCall 3 f_48 (mCons (mVar .keep 0) (mCons (mVar .keep 8) (mCons (mVar .keep 1) mNil))))) mNil)) mNil))))) mNext))))))
def f_49 : List D → M D := mDef 9 m_49
theorem sc_49 : FnScope N_49 ["well", "people"] (defScope (top 49)) := ⟨rfl, rfl, rfl, by decide +kernel, rfl, by decide +kernel, by decide +kernel⟩
theorem ok_49 (hK : K = c.K) (T : Txt c K w mg fa fd) : FnOk P w K mg base (L2.CX P w) 3 (fa 4) (fd 4) ["well", "people"] (spD c 2 f_49) :=
  fn_ok T.d_49.F sc_49 fun cdv A outer s H E B hr => by
    have hu := hr.units
    have hu65 := hr.units65
    have nd := sc_49.nd
    exact (mss_cons (by first | exact ms_par3 (i := 2) (k := 3) (l := 4) (fl := [false, false, false]) rfl nd (mf_cons (fun _ => (me_call (ok_47 hK T) (hr.mono (by decide)) T.d_47.g T.d_47.kp T.d_47.b (takes_of rfl rfl rfl rfl) (ma_cons (me_var (i := 0)) (ma_cons (me_var (i := 1)) ma_nil)))) (mf_cons (fun _ => (me_call (ok_44 hK T) (hr.mono (by decide)) T.d_44.g T.d_44.kp T.d_44.b (takes_of rfl rfl rfl rfl) (ma_cons (me_var (i := 0)) (ma_cons me_int ma_nil)))) (mf_cons (fun _ => (me_call (ok_44 hK T) (hr.mono (by decide)) T.d_44.g T.d_44.kp T.d_44.b (takes_of rfl rfl rfl rfl) (ma_cons (me_var (i := 0)) (ma_cons me_int ma_nil)))) mf_nil))) | exact ms_tup3 (i := 2) (k := 3) (l := 4) (fl := [false, false, false]) rfl nd (mf_cons (fun _ => (me_call (ok_47 hK T) (hr.mono (by decide)) T.d_47.g T.d_47.kp T.d_47.b (takes_of rfl rfl rfl rfl) (ma_cons (me_var (i := 0)) (ma_cons (me_var (i := 1)) ma_nil)))) (mf_cons (fun _ => (me_call (ok_44 hK T) (hr.mono (by decide)) T.d_44.g T.d_44.kp T.d_44.b (takes_of rfl rfl rfl rfl) (ma_cons (me_var (i := 0)) (ma_cons me_int ma_nil)))) (mf_cons (fun _ => (me_call (ok_44 hK T) (hr.mono (by decide)) T.d_44.g T.d_44.kp T.d_44.b (takes_of rfl rfl rfl rfl) (ma_cons (me_var (i := 0)) (ma_cons me_int ma_nil)))) mf_nil)))) (mss_cons (ms_asg (me_call (ok_46 hK T) (hr.mono (by decide)) T.d_46.g T.d_46.kp T.d_46.b (takes_of rfl rfl rfl rfl) (ma_cons (me_var (i := 2)) ma_nil)) (mg_seq hK rfl (mgs_cons (mg_name (i := 5) nd) (mgs_cons (mg_name (i := 6) nd) mgs_nil)))) (mss_cons (ms_if (mt_cmp (op_eqA hu) (ok_eq hK) (me_var (i := 3)) me_int rfl) (mss_cons (ms_set (i := 5) (me_callTy call_tupleF (ok_tupF hK) T.n_tuple (ml_cons (me_comp hK rfl nd (mi_range1 T.n_range me_int) (blkOk_by (own := [("turn", 7)]) (by kernel_rfl)) (fun _ _ _ _ _ => (pg_name (i := 7) nd rfl (by first | exact Or.inl rfl | exact Or.inr rfl))) (ng_name (by decide)) (fun _ _ _ _ _ _ => mts_nil) (fun _ _ _ _ _ _ => (me_call (ok_44 hK T) (hr.mono (by decide)) T.d_44.g T.d_44.kp T.d_44.b takes0 (ma_cons (me_var (i := 0)) (ma_cons (me_add hK (me_var (i := 1)) me_int) ma_nil))))) ml_nil) rfl) nd) mss_nil) mss_nil) (mss_cons (ms_if (mt_cmp (op_eqA hu) (ok_eq hK) (me_var (i := 3)) me_int rfl) (mss_cons (ms_set (i := 5) (me_add hK (me_add hK (me_slice hK (me_var (i := 5)) mo_none (mo_some (me_var (i := 4)))) (me_tup (ma_cons (me_add hK (me_look (me_ix hK hu (me_var (i := 5)) (me_var (i := 4)))) me_int) ma_nil))) (me_slice hK (me_var (i := 5)) (mo_some (me_add hK (me_var (i := 4)) me_int)) mo_none)) nd) mss_nil) mss_nil) (mss_cons (ms_if (mt_cmp (op_eqA hu) (ok_eq hK) (me_var (i := 3)) me_int rfl) (mss_cons (ms_ret (me_lst (ma_cons (me_var (i := 1)) (ma_cons (me_var (i := 5)) (ma_cons (me_mulT hK (me_tup (ma_cons (me_tup (ma_cons me_int (ma_cons (me_var (i := 1)) ma_nil))) ma_nil)) me_int) ma_nil))))) mss_nil) mss_nil) (mss_cons (ms_ret (me_lst (ma_cons (me_var (i := 1)) (ma_cons (me_var (i := 5)) (ma_cons (me_callTy call_tupleF (ok_tupF hK) T.n_tuple (ml_cons (me_comp hK rfl nd (mi_seqA hK (me_var (i := 6))) (blkOk_by (own := [("own", 8)]) (by kernel_rfl)) (fun _ _ _ _ _ => (pg_name (i := 8) nd rfl (by first | exact Or.inl rfl | exact Or.inr rfl))) (ng_name (by decide)) (fun _ _ _ _ _ _ => mts_nil) (fun _ _ _ _ _ _ => (me_call (ok_48 hK T) (hr.mono (by decide)) T.d_48.g T.d_48.kp T.d_48.b takes0 (ma_cons (me_var (i := 0)) (ma_cons (me_var (i := 8)) (ma_cons (me_var (i := 1)) ma_nil)))))) ml_nil) rfl) ma_nil))))) mss_nil))))))
/-! ### _law_is_in -/
def N_50 : List Str := ["numbers", "stretches", "own", "stretch"]
def m_50 : Env → M Fl := (mSeq (mRet (mBin dEq (mComp [2, 3] (mArgI dZip (mCons (mVar .keep 0) (mCons (mVar .keep 1) mNil))) (gTupD 2 (gsCons (gN 2) (gsCons (gN 3) gsNil))) (mNot (mAsB (mChain dLe dLe (mBin dIx (mVar .look 3) (mC (.int 0))) (mVar .look 2) (mBin dIx (mVar .look 3) (mC (.int 1)))))) (mVar .keep 2)) (mLst mNil))) mNext)
def f_50 : List D → M D := mDef 4 m_50
theorem sc_50 : FnScope N_50 ["numbers", "stretches"] (defScope (top 50)) := ⟨rfl, rfl, rfl, by decide +kernel, rfl, by decide +kernel, by decide +kernel⟩
theorem ok_50 (hK : K = c.K) (T : Txt c K w mg fa fd) : FnOk P w K mg base (L2.CX P w) 1 (fa 5) (fd 5) ["numbers", "stretches"] (spD c 2 f_50) :=
  fn_ok T.d_50.F sc_50 fun cdv A outer s H E B hr => by
    have hu := hr.units
    have hu65 := hr.units65
    have nd := sc_50.nd
    exact (mss_cons (ms_ret (me_cmp (op_eqA hu) (ok_eq hK) (me_comp hK rfl nd (mi_zip hK T.n_zip (ma_cons (me_var (i := 0)) (ma_cons (me_var (i := 1)) ma_nil))) (blkOk_by (own := [("own", 2), ("stretch", 3)]) (by kernel_rfl)) (fun _ _ _ _ _ => (pg_tup rfl (pgs_cons (pg_name (i := 2) nd rfl (by first | exact Or.inl rfl | exact Or.inr rfl)) (pgs_cons (pg_name (i := 3) nd rfl (by first | exact Or.inl rfl | exact Or.inr rfl)) pgs_nil)))) (ng_tup (ngs_cons (ng_name (by decide)) (ngs_cons (ng_name (by decide)) ngs_nil))) (fun _ _ _ _ _ _ => (mts_one (mt_not (mt_chain op_le op_le ok_le ok_le (me_look (me_ix hK hu (me_var (i := 3)) me_int)) (me_var (i := 2)) (me_look (me_ix hK hu (me_var (i := 3)) me_int)))))) (fun _ _ _ _ _ _ => (me_var (i := 2)))) (me_lst ma_nil) rfl)) mss_nil)
/-! ### is_integer -/
def N_11 : List Str := ["value"]
def m_11 : Env → M Fl := (mSeq (mRet (mAndV (mUn (dIsB .int known) (mVar .look 0)) (mNotV (mUn (dIsB .bool known) (mVar .look 0))))) mNext)
def f_11 : List D → M D := mDef 1 m_11
theorem sc_11 : FnScope N_11 ["value"] (defScope (top 11)) := ⟨rfl, rfl, rfl, by decide +kernel, rfl, by decide +kernel, by decide +kernel⟩
theorem ok_11 (hK : K = c.K) (T : Txt c K w mg fa fd) : FnOk P w K mg base (L2.CX P w) 1 (fa 6) (fd 6) ["value"] (spD c 1 f_11) :=
  fn_ok T.d_11.F sc_11 fun cdv A outer s H E B hr => by
    have hu := hr.units
    have hu65 := hr.units65
    have nd := sc_11.nd
    exact (mss_cons (ms_ret (me_and (me_isB .int hK T.n_isinstance T.n_int T.k_int (me_var (i := 0)) rfl) (me_one (me_not (me_isB .bool hK T.n_isinstance T.n_bool T.k_bool (me_var (i := 0)) rfl))))) mss_nil)
/-! ### is_within -/
def N_12 : List Str := ["value", "least", "greatest"]
def m_12 : Env → M Fl := (mSeq (mRet (mAndV (mCall 1 f_11 (mCons (mVar .keep 0) mNil)) (mChain dLe dLe (mVar .look 1) (mVar .look 0) (mVar .look 2)))) mNext)
def f_12 : List D → M D := mDef 3 m_12
theorem sc_12 : FnScope N_12 ["value", "least", "greatest"] (defScope (top 12)) := ⟨rfl, rfl, rfl, by decide +kernel, rfl, by decide +kernel, by decide +kernel⟩
theorem ok_12 (hK : K = c.K) (T : Txt c K w mg fa fd) : FnOk P w K mg base (L2.CX P w) 2 (fa 7) (fd 7) ["value", "least", "greatest"] (spD c 3 f_12) :=
  fn_ok T.d_12.F sc_12 fun cdv A outer s H E B hr => by
    have hu := hr.units
    have hu65 := hr.units65
    have nd := sc_12.nd
    exact (mss_cons (ms_ret (me_and (me_look (me_call (ok_11 hK T) (hr.mono (by decide)) T.d_11.g T.d_11.kp T.d_11.b (takes_of rfl rfl rfl rfl) (ma_cons (me_var (i := 0)) ma_nil))) (me_one (me_chain op_le op_le ok_le ok_le (me_var (i := 1)) (me_var (i := 0)) (me_var (i := 2)))))) mss_nil)
/-! ### check_people_to -/
def N_25 : List Str := ["value", "most"]
def m_25 : Env → M Fl := (mSeq (mIf (mNot (mTru (mCall 3 f_12 (mCons (mVar .keep 0) (mCons (mC (.int 1)) (mCons (mVar .keep 1) mNil)))))) (mSeq mNever mNext) mNext) mNext)
def f_25 : List D → M D := mDef 2 m_25
theorem sc_25 : FnScope N_25 ["value", "most"] (defScope (top 25)) := ⟨rfl, rfl, rfl, by decide +kernel, rfl, by decide +kernel, by decide +kernel⟩
theorem ok_25 (hK : K = c.K) (T : Txt c K w mg fa fd) : FnOk P w K mg base (L2.CX P w) 3 (fa 8) (fd 8) ["value", "most"] (spD c 2 f_25) :=
  fn_ok T.d_25.F sc_25 fun cdv A outer s H E B hr => by
    have hu := hr.units
    have hu65 := hr.units65
    have nd := sc_25.nd
    exact (mss_cons (ms_if (mt_not (mt_val hK (me_look (me_call (ok_12 hK T) (hr.mono (by decide)) T.d_12.g T.d_12.kp T.d_12.b (takes_of rfl rfl rfl rfl) (ma_cons (me_var (i := 0)) (ma_cons me_int (ma_cons (me_var (i := 1)) ma_nil))))))) (mss_cons ms_nv mss_nil) mss_nil) mss_nil)
/-! ### is_natural -/
def N_13 : List Str := ["value"]
def m_13 : Env → M Fl := (mSeq (mRet (mAndV (mCall 1 f_11 (mCons (mVar .keep 0) mNil)) (mBin dGe (mVar .look 0) (mC (.int 0))))) mNext)
def f_13 : List D → M D := mDef 1 m_13
theorem sc_13 : FnScope N_13 ["value"] (defScope (top 13)) := ⟨rfl, rfl, rfl, by decide +kernel, rfl, by decide +kernel, by decide +kernel⟩
theorem ok_13 (hK : K = c.K) (T : Txt c K w mg fa fd) : FnOk P w K mg base (L2.CX P w) 2 (fa 9) (fd 9) ["value"] (spD c 1 f_13) :=
  fn_ok T.d_13.F sc_13 fun cdv A outer s H E B hr => by
    have hu := hr.units
    have hu65 := hr.units65
    have nd := sc_13.nd
    exact (mss_cons (ms_ret (me_and (me_look (me_call (ok_11 hK T) (hr.mono (by decide)) T.d_11.g T.d_11.kp T.d_11.b (takes_of rfl rfl rfl rfl) (ma_cons (me_var (i := 0)) ma_nil))) (me_one (me_cmp op_ge ok_ge (me_var (i := 0)) me_int rfl)))) mss_nil)
/-! ### is_tuple_of -/
def N_14 : List Str := ["value", "many"]
def m_14 : Env → M Fl := (mSeq (mRet (mAndV (mUn (dIsB .tup known) (mVar .look 0)) (mBin dEq (mCl dLen (mCons (mVar .look 0) mNil)) (mVar .look 1)))) mNext)
def f_14 : List D → M D := mDef 2 m_14
theorem sc_14 : FnScope N_14 ["value", "many"] (defScope (top 14)) := ⟨rfl, rfl, rfl, by decide +kernel, rfl, by decide +kernel, by decide +kernel⟩
theorem ok_14 (hK : K = c.K) (T : Txt c K w mg fa fd) : FnOk P w K mg base (L2.CX P w) 1 (fa 10) (fd 10) ["value", "many"] (spD c 2 f_14) :=
  fn_ok T.d_14.F sc_14 fun cdv A outer s H E B hr => by
    have hu := hr.units
    have hu65 := hr.units65
    have nd := sc_14.nd
    exact (mss_cons (ms_ret (me_and (me_isB .tup hK T.n_isinstance T.n_tuple T.k_tuple (me_var (i := 0)) rfl) (me_one (me_cmp (op_eqA hu) (ok_eq hK) (me_callB cr_lenA (ok_len hK) T.n_len (ml_cons (me_var (i := 0)) ml_nil) rfl) (me_var (i := 1)) rfl)))) mss_nil)
/-! ### are_naturals -/
def N_15 : List Str := ["value", "many", "own"]
def m_15 : Env → M Fl := (mSeq (mRet (mAndV (mCall 2 f_14 (mCons (mVar .keep 0) (mCons (mVar .keep 1) mNil))) (mCl dAll (mCons (mComp [2] (mSeqA (mVar .keep 0)) (gN 2) mYes (mCall 1 f_13 (mCons (mVar .keep 2) mNil))) mNil)))) mNext)
def f_15 : List D → M D := mDef 3 m_15
theorem sc_15 : FnScope N_15 ["value", "many"] (defScope (top 15)) := ⟨rfl, rfl, rfl, by decide +kernel, rfl, by decide +kernel, by decide +kernel⟩
theorem ok_15 (hK : K = c.K) (T : Txt c K w mg fa fd) : FnOk P w K mg base (L2.CX P w) 3 (fa 11) (fd 11) ["value", "many"] (spD c 2 f_15) :=
  fn_ok T.d_15.F sc_15 fun cdv A outer s H E B hr => by
    have hu := hr.units
    have hu65 := hr.units65
    have nd := sc_15.nd
    exact (mss_cons (ms_ret (me_and (me_look (me_call (ok_14 hK T) (hr.mono (by decide)) T.d_14.g T.d_14.kp T.d_14.b (takes_of rfl rfl rfl rfl) (ma_cons (me_var (i := 0)) (ma_cons (me_var (i := 1)) ma_nil)))) (me_one (me_callB (cr_all rfl) (ok_all hK) T.n_all (ml_cons (me_comp hK rfl nd (mi_seqA hK (me_var (i := 0))) (blkOk_by (own := [("own", 2)]) (by kernel_rfl)) (fun _ _ _ _ _ => (pg_name (i := 2) nd rfl (by first | exact Or.inl rfl | exact Or.inr rfl))) (ng_name (by decide)) (fun _ _ _ _ _ _ => mts_nil) (fun _ _ _ _ _ _ => (me_call (ok_13 hK T) (hr.mono (by decide)) T.d_13.g T.d_13.kp T.d_13.b takes0 (ma_cons (me_var (i := 2)) ma_nil)))) ml_nil) rfl)))) mss_nil)
/-! ### is_stretch -/
def N_20 : List Str := ["value", "end"]
def m_20 : Env → M Fl := (mSeq (mIf (mOr (mNot (mTru (mCall 2 f_14 (mCons (mVar .keep 0) (mCons (mC (.int 2)) mNil))))) (mNot (mTru (mCl dAll (mCons (mComp [1] (mSeqA (mVar .keep 0)) (gN 1) mYes (mCall 3 f_12 (mCons (mVar .keep 1) (mCons (mC (.int 0)) (mCons (mC (.int 4000)) mNil))))) mNil))))) (mSeq (mRet (mC (.bl false))) mNext) mNext) (mSeq (mRet (mBin dLe (mBin dIx (mVar .look 0) (mC (.int 0))) (mBin dIx (mVar .look 0) (mC (.int 1))))) mNext))
def f_20 : List D → M D := mDef 2 m_20
theorem sc_20 : FnScope N_20 ["value"] (defScope (top 20)) := ⟨rfl, rfl, rfl, by decide +kernel, rfl, by decide +kernel, by decide +kernel⟩
theorem ok_20 (hK : K = c.K) (T : Txt c K w mg fa fd) : FnOk P w K mg base (L2.CX P w) 3 (fa 12) (fd 12) ["value"] (spD c 1 f_20) :=
  fn_ok T.d_20.F sc_20 fun cdv A outer s H E B hr => by
    have hu := hr.units
    have hu65 := hr.units65
    have nd := sc_20.nd
    exact (mss_cons (ms_if (mt_w (mw_or (mt_not (mt_val hK (me_look (me_call (ok_14 hK T) (hr.mono (by decide)) T.d_14.g T.d_14.kp T.d_14.b (takes_of rfl rfl rfl rfl) (ma_cons (me_var (i := 0)) (ma_cons me_int ma_nil)))))) (mw_or1 (mt_not (mt_val hK (me_callB (cr_all rfl) (ok_all hK) T.n_all (ml_cons (me_comp hK rfl nd (mi_seqA hK (me_var (i := 0))) (blkOk_by (own := [("end", 1)]) (by kernel_rfl)) (fun _ _ _ _ _ => (pg_name (i := 1) nd rfl (by first | exact Or.inl rfl | exact Or.inr rfl))) (ng_name (by decide)) (fun _ _ _ _ _ _ => mts_nil) (fun _ _ _ _ _ _ => (me_call (ok_12 hK T) (hr.mono (by decide)) T.d_12.g T.d_12.kp T.d_12.b takes0 (ma_cons (me_var (i := 1)) (ma_cons me_int (ma_cons (me_glob T.c_MOST_NUMBER) ma_nil)))))) ml_nil) rfl)))))) (mss_cons (ms_ret me_bl) mss_nil) mss_nil) (mss_cons (ms_ret (me_cmp op_le ok_le (me_look (me_ix hK hu (me_var (i := 0)) me_int)) (me_look (me_ix hK hu (me_var (i := 0)) me_int)) rfl)) mss_nil))
/-! ### check_firsts -/
def N_29 : List Str := ["value", "index", "stretch"]
def m_29 : Env → M Fl := (mSeq (mIf (mNot (mTru (mUn (dIsB .tup known) (mVar .look 0)))) (mSeq mNever mNext) mNext) (mSeq (mFor (mArgI dEnum (mCons (mVar .keep 0) mNil)) (gTupD 2 (gsCons (gN 1) (gsCons (gN 2) gsNil))) (mSeq (mIf (mOr (mAsB (mBin dEq (mVar .look 1) (mCl dLen (mCons (mC (.tup [(.str "a"), (.str "b"), (.str "c")])) mNil)))) (mNot (mTru (mCall 1 f_20 (mCons (mVar .keep 2) mNil))))) (mSeq mNever mNext) mNext) mNext)) (mSeq (mIf (mAsB (mBin dLt (mCl dLen (mCons (mVar .look 0) mNil)) (mCl dLen (mCons (mC (.tup [(.str "a"), (.str "b"), (.str "c")])) mNil)))) (mSeq mNever mNext) mNext) mNext)))
def f_29 : List D → M D := mDef 3 m_29
theorem sc_29 : FnScope N_29 ["value"] (defScope (top 29)) := ⟨rfl, rfl, rfl, by decide +kernel, rfl, by decide +kernel, by decide +kernel⟩
theorem ok_29 (hK : K = c.K) (T : Txt c K w mg fa fd) : FnOk P w K mg base (L2.CX P w) 4 (fa 13) (fd 13) ["value"] (spD c 1 f_29) :=
  fn_ok T.d_29.F sc_29 fun cdv A outer s H E B hr => by
    have hu := hr.units
    have hu65 := hr.units65
    have nd := sc_29.nd
    exact (mss_cons (ms_if (mt_not (mt_val hK (me_isB .tup hK T.n_isinstance T.n_tuple T.k_tuple (me_var (i := 0)) rfl))) (mss_cons ms_nv mss_nil) mss_nil) (mss_cons (ms_for (passes_of rfl) rfl (mi_enum hK T.n_enumerate (ma_cons (me_var (i := 0)) ma_nil)) (mg_tup hK rfl (mgs_cons (mg_name (i := 1) nd) (mgs_cons (mg_name (i := 2) nd) mgs_nil))) (mss_cons (ms_if (mt_w (mw_or (mt_cmp (op_eqA hu) (ok_eq hK) (me_var (i := 1)) (me_callB cr_lenA (ok_len hK) T.n_len (ml_cons (me_glob T.c_NAMES) ml_nil) rfl) rfl) (mw_or1 (mt_not (mt_val hK (me_look (me_call (ok_20 hK T) (hr.mono (by decide)) T.d_20.g T.d_20.kp T.d_20.b (takes_of rfl rfl rfl rfl) (ma_cons (me_var (i := 2)) ma_nil)))))))) (mss_cons ms_nv mss_nil) mss_nil) mss_nil)) (mss_cons (ms_if (mt_cmp op_lt ok_lt (me_callB cr_lenA (ok_len hK) T.n_len (ml_cons (me_var (i := 0)) ml_nil) rfl) (me_callB cr_lenA (ok_len hK) T.n_len (ml_cons (me_glob T.c_NAMES) ml_nil) rfl) rfl) (mss_cons ms_nv mss_nil) mss_nil) mss_nil)))
/-! ### written_stretch -/
def N_22 : List Str := ["stretch", "low", "high"]
def m_22 : Env → M Fl := (mSeq (mAsg (mVar .keep 0) (gSeqD 2 (gsCons (gN 1) (gsCons (gN 2) gsNil)))) (mSeq (mRet (mIfE (mAsB (mBin dEq (mVar .look 1) (mVar .look 2))) (mCl dStr (mCons (mVar .look 1) mNil)) (mJs [(mUn dFmt (mVar .look 1)), (mC (.str "-")), (mUn dFmt (mVar .look 2))] Str.empty))) mNext))
def f_22 : List D → M D := mDef 3 m_22
theorem sc_22 : FnScope N_22 ["stretch"] (defScope (top 22)) := ⟨rfl, rfl, rfl, by decide +kernel, rfl, by decide +kernel, by decide +kernel⟩
theorem ok_22 (hK : K = c.K) (T : Txt c K w mg fa fd) : FnOk P w K mg base (L2.CX P w) 1 (fa 14) (fd 14) ["stretch"] (spD c 1 f_22) :=
  fn_ok T.d_22.F sc_22 fun cdv A outer s H E B hr => by
    have hu := hr.units
    have hu65 := hr.units65
    have nd := sc_22.nd
    exact (mss_cons (ms_asg (me_var (i := 0)) (mg_seq hK rfl (mgs_cons (mg_name (i := 1) nd) (mgs_cons (mg_name (i := 2) nd) mgs_nil)))) (mss_cons (ms_ret (me_if (mt_cmp (op_eqA hu) (ok_eq hK) (me_var (i := 1)) (me_var (i := 2)) rfl) (me_callTy cr_strA ok_str T.n_str (ml_cons (me_var (i := 1)) ml_nil) rfl) (me_joined [(mUn dFmt (mVar .look 1)), (mC (.str "-")), (mUn dFmt (mVar .look 2))] (.cons (me_fmt (me_var (i := 1))) (.cons me_str (.cons (me_fmt (me_var (i := 2))) .nil)))))) mss_nil))
/-! ### numbers_text -/
def N_18 : List Str := ["numbers", "number"]
def m_18 : Env → M Fl := (mSeq (mRet (mM1 dJoin (mC (.str " ")) (mComp [1] (mSeqA (mVar .keep 0)) (gN 1) mYes (mCl dStr (mCons (mVar .look 1) mNil))))) mNext)
def f_18 : List D → M D := mDef 2 m_18
theorem sc_18 : FnScope N_18 ["numbers"] (defScope (top 18)) := ⟨rfl, rfl, rfl, by decide +kernel, rfl, by decide +kernel, by decide +kernel⟩
theorem ok_18 (hK : K = c.K) (T : Txt c K w mg fa fd) : FnOk P w K mg base (L2.CX P w) 1 (fa 15) (fd 15) ["numbers"] (spD c 1 f_18) :=
  fn_ok T.d_18.F sc_18 fun cdv A outer s H E B hr => by
    have hu := hr.units
    have hu65 := hr.units65
    have nd := sc_18.nd
    exact (mss_cons (ms_ret (me_join hK me_str (me_comp hK rfl nd (mi_seqA hK (me_var (i := 0))) (blkOk_by (own := [("number", 1)]) (by kernel_rfl)) (fun _ _ _ _ _ => (pg_name (i := 1) nd rfl (by first | exact Or.inl rfl | exact Or.inr rfl))) (ng_name (by decide)) (fun _ _ _ _ _ _ => mts_nil) (fun _ _ _ _ _ _ => (me_callTy cr_strA ok_str T.n_str (ml_cons (me_var (i := 1)) ml_nil) rfl))))) mss_nil)
/-! ### Votes.__init__ -/
def N_31_0 : List Str := ["self", "people", "pairs", "firsts", "stretches", "stretch"]
def m_31_0 : Env → M Fl := (mSeq (mDrop (mCall 2 f_25 (mCons (mVar .keep 1) (mCons (mC (.int 60)) mNil)))) (mSeq (mIf (mNot (mTru (mCall 2 f_15 (mCons (mVar .keep 2) (mCons (mCl dLen (mCons (mC (.tup [(.str "a"), (.str "b"), (.str "c")])) mNil)) mNil))))) (mSeq mNever mNext) mNext) (mSeq (mDrop (mCall 1 f_29 (mCons (mVar .keep 3) mNil))) (mSeq (mFset 0 known "own_people" (mVar .keep 1)) (mSeq (mFset 0 known "own_voters" (mBin dMulT (mTup (mCons (mC .non) mNil)) (mVar .look 1))) (mSeq (mFset 0 known "own_pairs" (mVar .keep 2)) (mSeq (mFset 0 known "own_firsts" (mVar .keep 3)) (mSeq (mSet 4 (mM1 dJoin (mC (.str " ")) (mComp [5] (mSeqA (mVar .keep 3)) (gN 5) mYes (mCall 1 f_22 (mCons (mVar .keep 5) mNil))))) (mSeq (mFset 0 known "own_text" (mJs [(mC (.str "votes ")), (mUn dFmt (mVar .look 1)), (mC (.str " ")), (mUn dFmt (mCall 1 f_18 (mCons (mVar .keep 2) mNil))), (mC (.str " ")), (mUn dFmt (mVar .look 4))] Str.empty)) mNext)))))))))
def f_31_0 : List D → M D := mInit 6 6 m_31_0
theorem sc_31_0 : FnScope N_31_0 ["self", "people", "pairs", "firsts"] (defScope (inClass (top 31) 0)) := ⟨rfl, rfl, rfl, by decide +kernel, rfl, by decide +kernel, by decide +kernel⟩
theorem ok_31_0 (hK : K = c.K) (T : Txt c K w mg fa fd) : FnOk P w K mg base (L2.CX P w) 5 (fa 16) (fd 16) ["self", "people", "pairs", "firsts"] (spI c 6 4 f_31_0) :=
  fn_okI (N := N_31_0) T.d_31_0.F sc_31_0 (by decide) fun y cdv A outer s H E B hr => by
    have T := T.at y
    have hu := hr.units
    have hu65 := hr.units65
    have nd := sc_31_0.nd
    exact (mss_cons (ms_expr (me_look (me_call (ok_25 hK T) (hr.mono (by decide)) T.d_25.g T.d_25.kp T.d_25.b (takes_of rfl rfl rfl rfl) (ma_cons (me_var (i := 1)) (ma_cons (me_glob T.c_MOST_VOTERS) ma_nil))))) (mss_cons (ms_if (mt_not (mt_val hK (me_look (me_call (ok_15 hK T) (hr.mono (by decide)) T.d_15.g T.d_15.kp T.d_15.b (takes_of rfl rfl rfl rfl) (ma_cons (me_var (i := 2)) (ma_cons (me_callB cr_lenA (ok_len hK) T.n_len (ml_cons (me_glob T.c_NAMES) ml_nil) rfl) ma_nil)))))) (mss_cons ms_nv mss_nil) mss_nil) (mss_cons (ms_expr (me_look (me_call (ok_29 hK T) (hr.mono (by decide)) T.d_29.g T.d_29.kp T.d_29.b (takes_of rfl rfl rfl rfl) (ma_cons (me_var (i := 3)) ma_nil)))) (mss_cons (ms_fset (i := 0) hK T.fl_own_people (me_var (i := 1))) (mss_cons (ms_fset (i := 0) hK T.fl_own_voters (me_mulT hK (me_tup (ma_cons me_non ma_nil)) (me_var (i := 1)))) (mss_cons (ms_fset (i := 0) hK T.fl_own_pairs (me_var (i := 2))) (mss_cons (ms_fset (i := 0) hK T.fl_own_firsts (me_var (i := 3))) (mss_cons (ms_set (i := 4) (me_join hK me_str (me_comp hK rfl nd (mi_seqA hK (me_var (i := 3))) (blkOk_by (own := [("stretch", 5)]) (by kernel_rfl)) (fun _ _ _ _ _ => (pg_name (i := 5) nd rfl (by first | exact Or.inl rfl | exact Or.inr rfl))) (ng_name (by decide)) (fun _ _ _ _ _ _ => mts_nil) (fun _ _ _ _ _ _ => (me_call (ok_22 hK T) (hr.mono (by decide)) T.d_22.g T.d_22.kp T.d_22.b takes0 (ma_cons (me_var (i := 5)) ma_nil))))) nd) (mss_cons (ms_fset (i := 0) hK T.fl_own_text (me_joined [(mC (.str "votes ")), (mUn dFmt (mVar .look 1)), (mC (.str " ")), (mUn dFmt (mCall 1 f_18 (mCons (mVar .keep 2) mNil))), (mC (.str " ")), (mUn dFmt (mVar .look 4))] (.cons me_str (.cons (me_fmt (me_var (i := 1))) (.cons me_str (.cons (me_fmt (me_look (me_call (ok_18 hK T) (hr.mono (by decide)) T.d_18.g T.d_18.kp T.d_18.b (takes_of rfl rfl rfl rfl) (ma_cons (me_var (i := 2)) ma_nil)))) (.cons me_str (.cons (me_fmt (me_var (i := 4))) .nil)))))))) mss_nil)))))))))
/-! ### check_votes -/
def N_30 : List Str := ["value"]
def m_30 : Env → M Fl := (mSeq (mIf (mNot (mTru (mUn (dIsC 6 known) (mVar .look 0)))) (mSeq mNever mNext) mNext) mNext)
def f_30 : List D → M D := mDef 1 m_30
theorem sc_30 : FnScope N_30 ["value"] (defScope (top 30)) := ⟨rfl, rfl, rfl, by decide +kernel, rfl, by decide +kernel, by decide +kernel⟩
theorem ok_30 (hK : K = c.K) (T : Txt c K w mg fa fd) : FnOk P w K mg base (L2.CX P w) 1 (fa 17) (fd 17) ["value"] (spD c 1 f_30) :=
  fn_ok T.d_30.F sc_30 fun cdv A outer s H E B hr => by
    have hu := hr.units
    have hu65 := hr.units65
    have nd := sc_30.nd
    exact (mss_cons (ms_if (mt_not (mt_val hK (me_isC hK T.n_isinstance T.i_Votes.1 T.i_Votes.2 (me_var (i := 0))))) (mss_cons ms_nv mss_nil) mss_nil) mss_nil)
/-! ### Votes.pairs -/
def N_31_3 : List Str := ["self"]
def m_31_3 : Env → M Fl := (mSeq (mRet (mUn (dFld known "own_pairs") (mVar .look 0))) mNext)
def f_31_3 : List D → M D := mDef 1 m_31_3
theorem sc_31_3 : FnScope N_31_3 ["self"] (defScope (inClass (top 31) 3)) := ⟨rfl, rfl, rfl, by decide +kernel, rfl, by decide +kernel, by decide +kernel⟩
theorem ok_31_3 (hK : K = c.K) (T : Txt c K w mg fa fd) : FnOk P w K mg base (L2.CX P w) 1 (fa 18) (fd 18) ["self"] (spD c 1 f_31_3) :=
  fn_ok T.d_31_3.F sc_31_3 fun cdv A outer s H E B hr => by
    have hu := hr.units
    have hu65 := hr.units65
    have nd := sc_31_3.nd
    exact (mss_cons (ms_ret (me_fld hK T.fl_own_pairs (me_var (i := 0)))) mss_nil)
/-! ### Votes.people -/
def N_31_2 : List Str := ["self"]
def m_31_2 : Env → M Fl := (mSeq (mRet (mUn (dFld known "own_people") (mVar .look 0))) mNext)
def f_31_2 : List D → M D := mDef 1 m_31_2
theorem sc_31_2 : FnScope N_31_2 ["self"] (defScope (inClass (top 31) 2)) := ⟨rfl, rfl, rfl, by decide +kernel, rfl, by decide +kernel, by decide +kernel⟩
theorem ok_31_2 (hK : K = c.K) (T : Txt c K w mg fa fd) : FnOk P w K mg base (L2.CX P w) 1 (fa 19) (fd 19) ["self"] (spD c 1 f_31_2) :=
  fn_ok T.d_31_2.F sc_31_2 fun cdv A outer s H E B hr => by
    have hu := hr.units
    have hu65 := hr.units65
    have nd := sc_31_2.nd
    exact (mss_cons (ms_ret (me_fld hK T.fl_own_people (me_var (i := 0)))) mss_nil)
/-! ### profile_with -/
def N_38 : List Str := ["votes", "abc", "acb", "people", "before", "between", "behind", "cab", "cba", "bca"]
def m_38 : Env → M Fl := (mSeq (mAsg (mTup (mCons (mUn (dProp [(6, f_31_2)]) (mVar .keep 0)) (mCons (mUn (dProp [(6, f_31_3)]) (mVar .keep 0)) mNil))) (gTupD 2 (gsCons (gN 3) (gsCons (gTupD 3 (gsCons (gN 4) (gsCons (gN 5) (gsCons (gN 6) gsNil)))) gsNil)))) (mSeq (mSet 7 (mBin dSub (mBin dSub (mVar .look 4) (mVar .look 1)) (mVar .look 2))) (mSeq (mSet 8 (mBin dAdd (mBin dSub (mBin dSub (mVar .look 3) (mVar .look 4)) (mVar .look 5)) (mVar .look 1))) (mSeq (mSet 9 (mBin dSub (mBin dSub (mVar .look 6) (mVar .look 7)) (mVar .look 8))) (mSeq (mRet (mTup (mCons (mVar .keep 1) (mCons (mVar .keep 2) (mCons (mBin dSub (mBin dSub (mVar .look 5) (mVar .look 1)) (mVar .look 9)) (mCons (mVar .keep 9) (mCons (mVar .keep 7) (mCons (mVar .keep 8) mNil)))))))) mNext)))))
def f_38 : List D → M D := mDef 10 m_38
theorem sc_38 : FnScope N_38 ["votes", "abc", "acb"] (defScope (top 38)) := ⟨rfl, rfl, rfl, by decide +kernel, rfl, by decide +kernel, by decide +kernel⟩
theorem ok_38 (hK : K = c.K) (T : Txt c K w mg fa fd) : FnOk P w K mg base (L2.CX P w) 3 (fa 20) (fd 20) ["votes", "abc", "acb"] (spD c 3 f_38) :=
  fn_ok T.d_38.F sc_38 fun cdv A outer s H E B hr => by
    have hu := hr.units
    have hu65 := hr.units65
    have nd := sc_38.nd
    exact (mss_cons (ms_asg (me_tup (ma_cons (me_prop (propL (propT_of T.cl_Votes T.p_31_2 (ok_31_2 hK T) (hr.mono (by decide)) T.d_31_2.b) propN) (me_var (i := 0))) (ma_cons (me_prop (propL (propT_of T.cl_Votes T.p_31_3 (ok_31_3 hK T) (hr.mono (by decide)) T.d_31_3.b) propN) (me_var (i := 0))) ma_nil))) (mg_tup hK rfl (mgs_cons (mg_name (i := 3) nd) (mgs_cons (mg_tup hK rfl (mgs_cons (mg_name (i := 4) nd) (mgs_cons (mg_name (i := 5) nd) (mgs_cons (mg_name (i := 6) nd) mgs_nil)))) mgs_nil)))) (mss_cons (ms_set (i := 7) (me_sub (me_sub (me_var (i := 4)) (me_var (i := 1))) (me_var (i := 2))) nd) (mss_cons (ms_set (i := 8) (me_add hK (me_sub (me_sub (me_var (i := 3)) (me_var (i := 4))) (me_var (i := 5))) (me_var (i := 1))) nd) (mss_cons (ms_set (i := 9) (me_sub (me_sub (me_var (i := 6)) (me_var (i := 7))) (me_var (i := 8))) nd) (mss_cons (ms_ret (me_tup (ma_cons (me_var (i := 1)) (ma_cons (me_var (i := 2)) (ma_cons (me_sub (me_sub (me_var (i := 5)) (me_var (i := 1))) (me_var (i := 9))) (ma_cons (me_var (i := 9)) (ma_cons (me_var (i := 7)) (ma_cons (me_var (i := 8)) ma_nil)))))))) mss_nil)))))
/-! ### lies_in -/
def N_21 : List Str := ["value", "stretch"]
def m_21 : Env → M Fl := (mSeq (mRet (mAndV (mCall 1 f_11 (mCons (mVar .keep 0) mNil)) (mChain dLe dLe (mBin dIx (mVar .look 1) (mC (.int 0))) (mVar .look 0) (mBin dIx (mVar .look 1) (mC (.int 1)))))) mNext)
def f_21 : List D → M D := mDef 2 m_21
theorem sc_21 : FnScope N_21 ["value", "stretch"] (defScope (top 21)) := ⟨rfl, rfl, rfl, by decide +kernel, rfl, by decide +kernel, by decide +kernel⟩
theorem ok_21 (hK : K = c.K) (T : Txt c K w mg fa fd) : FnOk P w K mg base (L2.CX P w) 2 (fa 21) (fd 21) ["value", "stretch"] (spD c 2 f_21) :=
  fn_ok T.d_21.F sc_21 fun cdv A outer s H E B hr => by
    have hu := hr.units
    have hu65 := hr.units65
    have nd := sc_21.nd
    exact (mss_cons (ms_ret (me_and (me_look (me_call (ok_11 hK T) (hr.mono (by decide)) T.d_11.g T.d_11.kp T.d_11.b (takes_of rfl rfl rfl rfl) (ma_cons (me_var (i := 0)) ma_nil))) (me_one (me_chain op_le op_le ok_le ok_le (me_look (me_ix hK hu (me_var (i := 1)) me_int)) (me_var (i := 0)) (me_look (me_ix hK hu (me_var (i := 1)) me_int)))))) mss_nil)
/-! ### are_within -/
def N_36 : List Str := ["numbers", "stretches", "number", "stretch"]
def m_36 : Env → M Fl := (mSeq (mRet (mCl dAll (mCons (mComp [2, 3] (mArgI dZip (mCons (mVar .keep 0) (mCons (mVar .keep 1) mNil))) (gTupD 2 (gsCons (gN 2) (gsCons (gN 3) gsNil))) mYes (mCall 2 f_21 (mCons (mVar .keep 2) (mCons (mVar .keep 3) mNil)))) mNil))) mNext)
def f_36 : List D → M D := mDef 4 m_36
theorem sc_36 : FnScope N_36 ["numbers", "stretches"] (defScope (top 36)) := ⟨rfl, rfl, rfl, by decide +kernel, rfl, by decide +kernel, by decide +kernel⟩
theorem ok_36 (hK : K = c.K) (T : Txt c K w mg fa fd) : FnOk P w K mg base (L2.CX P w) 3 (fa 22) (fd 22) ["numbers", "stretches"] (spD c 2 f_36) :=
  fn_ok T.d_36.F sc_36 fun cdv A outer s H E B hr => by
    have hu := hr.units
    have hu65 := hr.units65
    have nd := sc_36.nd
    exact (mss_cons (ms_ret (me_callB (cr_all rfl) (ok_all hK) T.n_all (ml_cons (me_comp hK rfl nd (mi_zip hK T.n_zip (ma_cons (me_var (i := 0)) (ma_cons (me_var (i := 1)) ma_nil))) (blkOk_by (own := [("number", 2), ("stretch", 3)]) (by kernel_rfl)) (fun _ _ _ _ _ => (pg_tup rfl (pgs_cons (pg_name (i := 2) nd rfl (by first | exact Or.inl rfl | exact Or.inr rfl)) (pgs_cons (pg_name (i := 3) nd rfl (by first | exact Or.inl rfl | exact Or.inr rfl)) pgs_nil)))) (ng_tup (ngs_cons (ng_name (by decide)) (ngs_cons (ng_name (by decide)) ngs_nil))) (fun _ _ _ _ _ _ => mts_nil) (fun _ _ _ _ _ _ => (me_call (ok_21 hK T) (hr.mono (by decide)) T.d_21.g T.d_21.kp T.d_21.b takes0 (ma_cons (me_var (i := 2)) (ma_cons (me_var (i := 3)) ma_nil))))) ml_nil) rfl)) mss_nil)
/-! ### Votes.firsts -/
def N_31_4 : List Str := ["self"]
def m_31_4 : Env → M Fl := (mSeq (mRet (mUn (dFld known "own_firsts") (mVar .look 0))) mNext)
def f_31_4 : List D → M D := mDef 1 m_31_4
theorem sc_31_4 : FnScope N_31_4 ["self"] (defScope (inClass (top 31) 4)) := ⟨rfl, rfl, rfl, by decide +kernel, rfl, by decide +kernel, by decide +kernel⟩
theorem ok_31_4 (hK : K = c.K) (T : Txt c K w mg fa fd) : FnOk P w K mg base (L2.CX P w) 1 (fa 23) (fd 23) ["self"] (spD c 1 f_31_4) :=
  fn_ok T.d_31_4.F sc_31_4 fun cdv A outer s H E B hr => by
    have hu := hr.units
    have hu65 := hr.units65
    have nd := sc_31_4.nd
    exact (mss_cons (ms_ret (me_fld hK T.fl_own_firsts (me_var (i := 0)))) mss_nil)
/-! ### firsts_of -/
def N_34 : List Str := ["profile", "abc", "acb", "bac", "bca", "cab", "cba"]
def m_34 : Env → M Fl := (mSeq (mAsg (mVar .keep 0) (gSeqD 6 (gsCons (gN 1) (gsCons (gN 2) (gsCons (gN 3) (gsCons (gN 4) (gsCons (gN 5) (gsCons (gN 6) gsNil)))))))) (mSeq (mRet (mTup (mCons (mBin dAdd (mVar .look 1) (mVar .look 2)) (mCons (mBin dAdd (mVar .look 3) (mVar .look 4)) (mCons (mBin dAdd (mVar .look 5) (mVar .look 6)) mNil))))) mNext))
def f_34 : List D → M D := mDef 7 m_34
theorem sc_34 : FnScope N_34 ["profile"] (defScope (top 34)) := ⟨rfl, rfl, rfl, by decide +kernel, rfl, by decide +kernel, by decide +kernel⟩
theorem ok_34 (hK : K = c.K) (T : Txt c K w mg fa fd) : FnOk P w K mg base (L2.CX P w) 1 (fa 24) (fd 24) ["profile"] (spD c 1 f_34) :=
  fn_ok T.d_34.F sc_34 fun cdv A outer s H E B hr => by
    have hu := hr.units
    have hu65 := hr.units65
    have nd := sc_34.nd
    exact (mss_cons (ms_asg (me_var (i := 0)) (mg_seq hK rfl (mgs_cons (mg_name (i := 1) nd) (mgs_cons (mg_name (i := 2) nd) (mgs_cons (mg_name (i := 3) nd) (mgs_cons (mg_name (i := 4) nd) (mgs_cons (mg_name (i := 5) nd) (mgs_cons (mg_name (i := 6) nd) mgs_nil)))))))) (mss_cons (ms_ret (me_tup (ma_cons (me_add hK (me_var (i := 1)) (me_var (i := 2))) (ma_cons (me_add hK (me_var (i := 3)) (me_var (i := 4))) (ma_cons (me_add hK (me_var (i := 5)) (me_var (i := 6))) ma_nil))))) mss_nil))
/-! ### all_profiles -/
def N_39 : List Str := ["votes", "before", "found", "abc", "acb", "profile"]
def m_39 : Env → M Fl := (mSeq (mPar [1, 2] [false, true] (mCons (mBin dIx (mUn (dProp [(6, f_31_3)]) (mVar .keep 0)) (mC (.int 0))) (mCons (mLst mNil) mNil))) (mSeq (mFor (mRng1 (mBin dAdd (mCl dMin (mCons (mUn (dProp [(6, f_31_2)]) (mVar .keep 0)) (mCons (mVar .look 1) mNil))) (mC (.int 1)))) (gN 3) (mSeq (mFor (mRng1 (mBin dAdd (mBin dSub (mCl dMin (mCons (mUn (dProp [(6, f_31_2)]) (mVar .keep 0)) (mCons (mVar .look 1) mNil))) (mVar .look 3)) (mC (.int 1)))) (gN 4) (mSeq (mSet 5 (mCall 3 f_38 (mCons (mVar .keep 0) (mCons (mVar .keep 3) (mCons (mVar .keep 4) mNil))))) (mSeq (mIf (mAnd (mAsB (mBin dGe (mCl dMin (mCons (mVar .look 5) mNil)) (mC (.int 0)))) (mTru (mCall 2 f_36 (mCons (mCall 1 f_34 (mCons (mVar .keep 5) mNil)) (mCons (mUn (dProp [(6, f_31_4)]) (mVar .keep 0)) mNil))))) (mSeq (mApp 2 (mVar .keep 5)) mNext) mNext) mNext))) mNext)) (mFrz 2 (mSeq (mRet (mVar .keep 2)) mNext))))
def f_39 : List D → M D := mDef 6 m_39
theorem sc_39 : FnScope N_39 ["votes"] (defScope (top 39)) := ⟨rfl, rfl, rfl, by decide +kernel, rfl, by decide +kernel, by decide +kernel⟩
theorem ok_39 (hK : K = c.K) (T : Txt c K w mg fa fd) : FnOk P w K mg base (L2.CX P w) 4 (fa 25) (fd 25) ["votes"] (spD c 1 f_39) :=
  fn_ok T.d_39.F sc_39 fun cdv A outer s H E B hr => by
    have hu := hr.units
    have hu65 := hr.units65
    have nd := sc_39.nd
    exact (mss_cons (by first | exact ms_par (i := 1) (k := 2) (fl := [false, true]) rfl nd (mf_cons (fun _ => (me_ix hK hu (me_look (me_prop (propL (propT_of T.cl_Votes T.p_31_3 (ok_31_3 hK T) (hr.mono (by decide)) T.d_31_3.b) propN) (me_var (i := 0)))) me_int)) (mf_cons (fun _ => (me_lst ma_nil)) mf_nil)) | exact ms_tup2 (i := 1) (k := 2) (fl := [false, true]) rfl nd (mf_cons (fun _ => (me_ix hK hu (me_look (me_prop (propL (propT_of T.cl_Votes T.p_31_3 (ok_31_3 hK T) (hr.mono (by decide)) T.d_31_3.b) propN) (me_var (i := 0)))) me_int)) (mf_cons (fun _ => (me_lst ma_nil)) mf_nil))) (mss_cons (ms_for (passes_of rfl) rfl (mi_range1 T.n_range (me_add hK (me_callB (cr_minA rfl) (ok_min hK) T.n_min (ml_cons (me_look (me_prop (propL (propT_of T.cl_Votes T.p_31_2 (ok_31_2 hK T) (hr.mono (by decide)) T.d_31_2.b) propN) (me_var (i := 0)))) (ml_cons (me_var (i := 1)) ml_nil)) rfl) me_int)) (mg_name (i := 3) nd) (mss_cons (ms_for (passes_of rfl) rfl (mi_range1 T.n_range (me_add hK (me_sub (me_callB (cr_minA rfl) (ok_min hK) T.n_min (ml_cons (me_look (me_prop (propL (propT_of T.cl_Votes T.p_31_2 (ok_31_2 hK T) (hr.mono (by decide)) T.d_31_2.b) propN) (me_var (i := 0)))) (ml_cons (me_var (i := 1)) ml_nil)) rfl) (me_var (i := 3))) me_int)) (mg_name (i := 4) nd) (mss_cons (ms_set (i := 5) (me_call (ok_38 hK T) (hr.mono (by decide)) T.d_38.g T.d_38.kp T.d_38.b (takes_of rfl rfl rfl rfl) (ma_cons (me_var (i := 0)) (ma_cons (me_var (i := 3)) (ma_cons (me_var (i := 4)) ma_nil)))) nd) (mss_cons (ms_if (mt_w (mw_and (mt_cmp op_ge ok_ge (me_callB (cr_minA rfl) (ok_min hK) T.n_min (ml_cons (me_var (i := 5)) ml_nil) rfl) me_int rfl) (mw_and1 (mt_val hK (me_look (me_call (ok_36 hK T) (hr.mono (by decide)) T.d_36.g T.d_36.kp T.d_36.b (takes_of rfl rfl rfl rfl) (ma_cons (me_call (ok_34 hK T) (hr.mono (by decide)) T.d_34.g T.d_34.kp T.d_34.b (takes_of rfl rfl rfl rfl) (ma_cons (me_var (i := 5)) ma_nil)) (ma_cons (me_prop (propL (propT_of T.cl_Votes T.p_31_4 (ok_31_4 hK T) (hr.mono (by decide)) T.d_31_4.b) propN) (me_var (i := 0))) ma_nil)))))))) (mss_cons (ms_append (i := 2) (me_var (i := 5)) ⟨rfl, rfl, rfl, rfl, rfl⟩) mss_nil) mss_nil) mss_nil))) mss_nil)) (mss_frz 2 (mss_cons (ms_ret (me_var (i := 2))) mss_nil))))
/-! ### profiles_number -/
def N_41 : List Str := ["votes"]
def m_41 : Env → M Fl := (mSeq (mDrop (mCall 1 f_30 (mCons (mVar .keep 0) mNil))) (mSeq (mRet (mCl dLen (mCons (mCall 1 f_39 (mCons (mVar .keep 0) mNil)) mNil))) mNext))
def f_41 : List D → M D := mDef 1 m_41
theorem sc_41 : FnScope N_41 ["votes"] (defScope (top 41)) := ⟨rfl, rfl, rfl, by decide +kernel, rfl, by decide +kernel, by decide +kernel⟩
theorem ok_41 (hK : K = c.K) (T : Txt c K w mg fa fd) : FnOk P w K mg base (L2.CX P w) 5 (fa 26) (fd 26) ["votes"] (spD c 1 f_41) :=
  fn_ok T.d_41.F sc_41 fun cdv A outer s H E B hr => by
    have hu := hr.units
    have hu65 := hr.units65
    have nd := sc_41.nd
    exact (mss_cons (ms_expr (me_look (me_call (ok_30 hK T) (hr.mono (by decide)) T.d_30.g T.d_30.kp T.d_30.b (takes_of rfl rfl rfl rfl) (ma_cons (me_var (i := 0)) ma_nil)))) (mss_cons (ms_ret (me_callB cr_lenA (ok_len hK) T.n_len (ml_cons (me_look (me_call (ok_39 hK T) (hr.mono (by decide)) T.d_39.g T.d_39.kp T.d_39.b (takes_of rfl rfl rfl rfl) (ma_cons (me_var (i := 0)) ma_nil))) ml_nil) rfl)) mss_nil))
/-! ### first_profile -/
def N_40 : List Str := ["votes", "found"]
def m_40 : Env → M Fl := (mSeq (mDrop (mCall 1 f_30 (mCons (mVar .keep 0) mNil))) (mSeq (mSet 1 (mCall 1 f_39 (mCons (mVar .keep 0) mNil))) (mSeq (mRet (mIfE (mAsB (mBin dNe (mVar .look 1) (mLst mNil))) (mBin dIx (mVar .look 1) (mC (.int 0))) (mC .non))) mNext)))
def f_40 : List D → M D := mDef 2 m_40
theorem sc_40 : FnScope N_40 ["votes"] (defScope (top 40)) := ⟨rfl, rfl, rfl, by decide +kernel, rfl, by decide +kernel, by decide +kernel⟩
theorem ok_40 (hK : K = c.K) (T : Txt c K w mg fa fd) : FnOk P w K mg base (L2.CX P w) 5 (fa 27) (fd 27) ["votes"] (spD c 1 f_40) :=
  fn_ok T.d_40.F sc_40 fun cdv A outer s H E B hr => by
    have hu := hr.units
    have hu65 := hr.units65
    have nd := sc_40.nd
    exact (mss_cons (ms_expr (me_look (me_call (ok_30 hK T) (hr.mono (by decide)) T.d_30.g T.d_30.kp T.d_30.b (takes_of rfl rfl rfl rfl) (ma_cons (me_var (i := 0)) ma_nil)))) (mss_cons (ms_set (i := 1) (me_call (ok_39 hK T) (hr.mono (by decide)) T.d_39.g T.d_39.kp T.d_39.b (takes_of rfl rfl rfl rfl) (ma_cons (me_var (i := 0)) ma_nil)) nd) (mss_cons (ms_ret (me_if (mt_cmp (op_neA hu) (ok_ne hK) (me_var (i := 1)) (me_lst ma_nil) rfl) (me_ix hK hu (me_var (i := 1)) me_int) me_non)) mss_nil)))
/-! ### _law_of -/
def N_45 : List Str := ["well", "menu"]
def m_45 : Env → M Fl := (mSeq (mRet (mBin dIx (mVar .look 1) (mCall 2 f_44 (mCons (mVar .keep 0) (mCons (mCl dLen (mCons (mVar .look 1) mNil)) mNil))))) mNext)
def f_45 : List D → M D := mDef 2 m_45
theorem sc_45 : FnScope N_45 ["well", "menu"] (defScope (top 45)) := ⟨rfl, rfl, rfl, by decide +kernel, rfl, by decide +kernel, by decide +kernel⟩
theorem ok_45 (hK : K = c.K) (T : Txt c K w mg fa fd) : FnOk P w K mg base (L2.CX P w) 2 (fa 28) (fd 28) ["well", "menu"] (spD c 2 f_45) :=
  fn_ok T.d_45.F sc_45 fun cdv A outer s H E B hr => by
    have hu := hr.units
    have hu65 := hr.units65
    have nd := sc_45.nd
    exact (mss_cons (ms_ret (me_ix hK hu (me_var (i := 1)) (me_look (me_call (ok_44 hK T) (hr.mono (by decide)) T.d_44.g T.d_44.kp T.d_44.b (takes_of rfl rfl rfl rfl) (ma_cons (me_var (i := 0)) (ma_cons (me_callB cr_lenA (ok_len hK) T.n_len (ml_cons (me_var (i := 1)) ml_nil) rfl) ma_nil)))))) mss_nil)
/-! ### _law_bent -/
def N_54 : List Str := ["well", "profile", "way", "at", "k", "found", "some"]
def m_54 : Env → M Fl := (mSeq (mPar [2, 3, 4] [false, false, false] (mCons (mCall 2 f_44 (mCons (mVar .keep 0) (mCons (mC (.int 6)) mNil))) (mCons (mCall 2 f_44 (mCons (mVar .keep 0) (mCons (mC (.int 6)) mNil))) (mCons (mCall 2 f_44 (mCons (mVar .keep 0) (mCons (mC (.int 6)) mNil))) mNil)))) (mSeq (mSetO 5 (mCl dLstF (mCons (mVar .look 1) mNil))) (mSeq (mIf (mAsB (mBin dEq (mVar .look 2) (mC (.int 0)))) (mSeq (mAsg (mBin dAdd (mBin dIx (mVar .look 5) (mVar .look 3)) (mCall 2 f_45 (mCons (mVar .keep 0) (mCons (mLst (mCons (mC (.int 1)) (mCons (mUn dNeg (mC (.int 1))) (mCons (mBin dPow (mC (.int 10)) (mC (.int 20))) mNil)))) mNil)))) (gIxL 5 (mVar .look 3))) mNext) mNext) (mSeq (mIf (mAsB (mBin dEq (mVar .look 2) (mC (.int 1)))) (mSeq (mAsg (mTup (mCons (mBin dIx (mVar .look 5) (mVar .look 4)) (mCons (mBin dIx (mVar .look 5) (mVar .look 3)) mNil))) (gTupD 2 (gsCons (gIxL 5 (mVar .look 3)) (gsCons (gIxL 5 (mVar .look 4)) gsNil)))) mNext) mNext) (mSeq (mIf (mAsB (mBin dEq (mVar .look 2) (mC (.int 2)))) (mSeq (mAsg (mTup (mCons (mBin dAdd (mBin dIx (mVar .look 5) (mVar .look 3)) (mC (.int 1))) (mCons (mBin dSub (mBin dIx (mVar .look 5) (mVar .look 4)) (mC (.int 1))) mNil))) (gTupD 2 (gsCons (gIxL 5 (mVar .look 3)) (gsCons (gIxL 5 (mVar .look 4)) gsNil)))) mNext) mNext) (mSeq (mIf (mAsB (mBin dEq (mVar .look 2) (mC (.int 3)))) (mSeq (mAsg (mCall 2 f_45 (mCons (mVar .keep 0) (mCons (mLst (mCons (mC (.bl true)) (mCons (mC (.bl false)) (mCons (mC .non) (mCons (mUn dNeg (mC (.int 1))) (mCons (mC (.str "1")) (mCons (mTup (mCons (mC (.int 1)) mNil)) (mCons (mLst (mCons (mC (.int 1)) mNil)) (mCons (mC (.int 0)) mNil))))))))) mNil))) (gIxL 5 (mVar .look 3))) mNext) mNext) (mSeq (mIf (mAsB (mBin dEq (mVar .look 2) (mC (.int 4)))) (mSeq (mSet 6 (mLst (mCons (mCl dLstF (mCons (mVar .look 1) mNil)) (mCons (mBin dAdd (mVar .look 1) (mTup (mCons (mC (.int 0)) mNil))) (mCons (mSl (mVar .look 1) mNo (mYesI (mC (.int 5)))) (mCons (mC .non) (mCons (mTup mNil) (mCons mDict0 (mCons (mC (.int 6)) (mCons (mC (.str "abc")) (mCons (mTup (mCons (mVar .keep 1) mNil)) (mCons (mLst (mCons (mVar .keep 1) mNil)) (mCons (mC (.bl true)) mNil))))))))))))) (mSeq (mRet (mCall 2 f_45 (mCons (mVar .keep 0) (mCons (mVar .keep 6) mNil)))) mNext)) mNext) (mSeq (mRet (mCl dTupF (mCons (mVar .look 5) mNil))) mNext))))))))
def f_54 : List D → M D := mDef 7 m_54
theorem sc_54 : FnScope N_54 ["well", "profile"] (defScope (top 54)) := ⟨rfl, rfl, rfl, by decide +kernel, rfl, by decide +kernel, by decide +kernel⟩
theorem ok_54 (hK : K = c.K) (T : Txt c K w mg fa fd) : FnOk P w K mg base (L2.CX P w) 3 (fa 29) (fd 29) ["well", "profile"] (spD c 2 f_54) :=
  fn_ok T.d_54.F sc_54 fun cdv A outer s H E B hr => by
    have hu := hr.units
    have hu65 := hr.units65
    have nd := sc_54.nd
    exact (mss_cons (by first | exact ms_par3 (i := 2) (k := 3) (l := 4) (fl := [false, false, false]) rfl nd (mf_cons (fun _ => (me_call (ok_44 hK T) (hr.mono (by decide)) T.d_44.g T.d_44.kp T.d_44.b (takes_of rfl rfl rfl rfl) (ma_cons (me_var (i := 0)) (ma_cons me_int ma_nil)))) (mf_cons (fun _ => (me_call (ok_44 hK T) (hr.mono (by decide)) T.d_44.g T.d_44.kp T.d_44.b (takes_of rfl rfl rfl rfl) (ma_cons (me_var (i := 0)) (ma_cons me_int ma_nil)))) (mf_cons (fun _ => (me_call (ok_44 hK T) (hr.mono (by decide)) T.d_44.g T.d_44.kp T.d_44.b (takes_of rfl rfl rfl rfl) (ma_cons (me_var (i := 0)) (ma_cons me_int ma_nil)))) mf_nil))) | exact ms_tup3 (i := 2) (k := 3) (l := 4) (fl := [false, false, false]) rfl nd (mf_cons (fun _ => (me_call (ok_44 hK T) (hr.mono (by decide)) T.d_44.g T.d_44.kp T.d_44.b (takes_of rfl rfl rfl rfl) (ma_cons (me_var (i := 0)) (ma_cons me_int ma_nil)))) (mf_cons (fun _ => (me_call (ok_44 hK T) (hr.mono (by decide)) T.d_44.g T.d_44.kp T.d_44.b (takes_of rfl rfl rfl rfl) (ma_cons (me_var (i := 0)) (ma_cons me_int ma_nil)))) (mf_cons (fun _ => (me_call (ok_44 hK T) (hr.mono (by decide)) T.d_44.g T.d_44.kp T.d_44.b (takes_of rfl rfl rfl rfl) (ma_cons (me_var (i := 0)) (ma_cons me_int ma_nil)))) mf_nil)))) (mss_cons (ms_setO (i := 5) (me_callTy call_list_of (ok_lstF hK) T.n_list (ml_cons (me_var (i := 1)) ml_nil) rfl) nd) (mss_cons (ms_if (mt_cmp (op_eqA hu) (ok_eq hK) (me_var (i := 2)) me_int rfl) (mss_cons (ms_asg (me_add hK (me_look (me_ix hK hu (me_var (i := 5)) (me_var (i := 3)))) (me_look (me_call (ok_45 hK T) (hr.mono (by decide)) T.d_45.g T.d_45.kp T.d_45.b (takes_of rfl rfl rfl rfl) (ma_cons (me_var (i := 0)) (ma_cons (me_lst (ma_cons me_int (ma_cons (me_neg me_int) (ma_cons (me_pow me_int me_int) ma_nil)))) ma_nil))))) (mg_ixL (W := fun cls d _ H => E cls d H) (i := 5) (me_var (i := 3)))) mss_nil) mss_nil) (mss_cons (ms_if (mt_cmp (op_eqA hu) (ok_eq hK) (me_var (i := 2)) me_int rfl) (mss_cons (ms_asg (me_tup (ma_cons (me_ix hK hu (me_var (i := 5)) (me_var (i := 4))) (ma_cons (me_ix hK hu (me_var (i := 5)) (me_var (i := 3))) ma_nil))) (mg_tup hK rfl (mgs_cons (mg_ixL (W := fun cls d _ H => E cls d H) (i := 5) (me_var (i := 3))) (mgs_cons (mg_ixL (W := fun cls d _ H => E cls d H) (i := 5) (me_var (i := 4))) mgs_nil)))) mss_nil) mss_nil) (mss_cons (ms_if (mt_cmp (op_eqA hu) (ok_eq hK) (me_var (i := 2)) me_int rfl) (mss_cons (ms_asg (me_tup (ma_cons (me_add hK (me_look (me_ix hK hu (me_var (i := 5)) (me_var (i := 3)))) me_int) (ma_cons (me_sub (me_look (me_ix hK hu (me_var (i := 5)) (me_var (i := 4)))) me_int) ma_nil))) (mg_tup hK rfl (mgs_cons (mg_ixL (W := fun cls d _ H => E cls d H) (i := 5) (me_var (i := 3))) (mgs_cons (mg_ixL (W := fun cls d _ H => E cls d H) (i := 5) (me_var (i := 4))) mgs_nil)))) mss_nil) mss_nil) (mss_cons (ms_if (mt_cmp (op_eqA hu) (ok_eq hK) (me_var (i := 2)) me_int rfl) (mss_cons (ms_asg (me_call (ok_45 hK T) (hr.mono (by decide)) T.d_45.g T.d_45.kp T.d_45.b (takes_of rfl rfl rfl rfl) (ma_cons (me_var (i := 0)) (ma_cons (me_lst (ma_cons me_bl (ma_cons me_bl (ma_cons me_non (ma_cons (me_neg me_int) (ma_cons me_str (ma_cons (me_tup (ma_cons me_int ma_nil)) (ma_cons (me_lst (ma_cons me_int ma_nil)) (ma_cons me_int ma_nil))))))))) ma_nil))) (mg_ixL (W := fun cls d _ H => E cls d H) (i := 5) (me_var (i := 3)))) mss_nil) mss_nil) (mss_cons (ms_if (mt_cmp (op_eqA hu) (ok_eq hK) (me_var (i := 2)) me_int rfl) (mss_cons (ms_set (i := 6) (me_lst (ma_cons (me_callTy call_list_of (ok_lstF hK) T.n_list (ml_cons (me_var (i := 1)) ml_nil) rfl) (ma_cons (me_add hK (me_var (i := 1)) (me_tup (ma_cons me_int ma_nil))) (ma_cons (me_slice hK (me_var (i := 1)) mo_none (mo_some me_int)) (ma_cons me_non (ma_cons (me_tup ma_nil) (ma_cons me_dict0 (ma_cons me_int (ma_cons me_str (ma_cons (me_tup (ma_cons (me_var (i := 1)) ma_nil)) (ma_cons (me_lst (ma_cons (me_var (i := 1)) ma_nil)) (ma_cons me_bl ma_nil)))))))))))) nd) (mss_cons (ms_ret (me_call (ok_45 hK T) (hr.mono (by decide)) T.d_45.g T.d_45.kp T.d_45.b (takes_of rfl rfl rfl rfl) (ma_cons (me_var (i := 0)) (ma_cons (me_var (i := 6)) ma_nil)))) mss_nil)) mss_nil) (mss_cons (ms_ret (me_callTy call_tupleF (ok_tupF hK) T.n_tuple (ml_cons (me_var (i := 5)) ml_nil) rfl)) mss_nil))))))))
/-! ### _law_is_one -/
def N_53 : List Str := ["plan", "thing", "pairs", "firsts", "one"]
def m_53 : Env → M Fl := (mSeq (mIf (mOr (mNot (mTru (mUn (dIsB .tup known) (mVar .look 1)))) (mAsB (mBin dNe (mCl dLen (mCons (mVar .look 1) mNil)) (mC (.int 6))))) (mSeq (mRet (mC (.bl false))) mNext) mNext) (mSeq (mIf (mAsB (mBin dNe (mComp [4] (mSeqA (mVar .keep 1)) (gN 4) (mOr (mNot (mTru (mUn (dIsB .int known) (mVar .look 4)))) (mOr (mTru (mUn (dIsB .bool known) (mVar .look 4))) (mAsB (mBin dLt (mVar .look 4) (mC (.int 0)))))) (mVar .keep 4)) (mLst mNil))) (mSeq (mRet (mC (.bl false))) mNext) mNext) (mSeq (mAsg (mCall 1 f_46 (mCons (mVar .keep 1) mNil)) (gSeqD 2 (gsCons (gN 2) (gsCons (gN 3) gsNil)))) (mSeq (mRet (mAndV (mBin dEq (mCl dSum (mCons (mVar .look 1) mNil)) (mBin dIx (mVar .look 0) (mC (.int 0)))) (mAndV (mBin dEq (mVar .look 2) (mBin dIx (mVar .look 0) (mC (.int 1)))) (mCall 2 f_50 (mCons (mVar .keep 3) (mCons (mBin dIx (mVar .look 0) (mC (.int 2))) mNil)))))) mNext))))
def f_53 : List D → M D := mDef 5 m_53
theorem sc_53 : FnScope N_53 ["plan", "thing"] (defScope (top 53)) := ⟨rfl, rfl, rfl, by decide +kernel, rfl, by decide +kernel, by decide +kernel⟩
theorem ok_53 (hK : K = c.K) (T : Txt c K w mg fa fd) : FnOk P w K mg base (L2.CX P w) 2 (fa 30) (fd 30) ["plan", "thing"] (spD c 2 f_53) :=
  fn_ok T.d_53.F sc_53 fun cdv A outer s H E B hr => by
    have hu := hr.units
    have hu65 := hr.units65
    have nd := sc_53.nd
    exact (mss_cons (ms_if (mt_w (mw_or (mt_not (mt_val hK (me_isB .tup hK T.n_isinstance T.n_tuple T.k_tuple (me_var (i := 1)) rfl))) (mw_or1 (mt_cmp (op_neA hu) (ok_ne hK) (me_callB cr_lenA (ok_len hK) T.n_len (ml_cons (me_var (i := 1)) ml_nil) rfl) me_int rfl)))) (mss_cons (ms_ret me_bl) mss_nil) mss_nil) (mss_cons (ms_if (mt_cmp (op_neA hu) (ok_ne hK) (me_comp hK rfl nd (mi_seqA hK (me_var (i := 1))) (blkOk_by (own := [("one", 4)]) (by kernel_rfl)) (fun _ _ _ _ _ => (pg_name (i := 4) nd rfl (by first | exact Or.inl rfl | exact Or.inr rfl))) (ng_name (by decide)) (fun _ _ _ _ _ _ => (mts_one (mt_w (mw_or (mt_not (mt_val hK (me_isB .int hK T.n_isinstance T.n_int T.k_int (me_var (i := 4)) rfl))) (mw_or (mt_val hK (me_isB .bool hK T.n_isinstance T.n_bool T.k_bool (me_var (i := 4)) rfl)) (mw_or1 (mt_cmp op_lt ok_lt (me_var (i := 4)) me_int rfl))))))) (fun _ _ _ _ _ _ => (me_var (i := 4)))) (me_lst ma_nil) rfl) (mss_cons (ms_ret me_bl) mss_nil) mss_nil) (mss_cons (ms_asg (me_call (ok_46 hK T) (hr.mono (by decide)) T.d_46.g T.d_46.kp T.d_46.b (takes_of rfl rfl rfl rfl) (ma_cons (me_var (i := 1)) ma_nil)) (mg_seq hK rfl (mgs_cons (mg_name (i := 2) nd) (mgs_cons (mg_name (i := 3) nd) mgs_nil)))) (mss_cons (ms_ret (me_and (me_cmp (op_eqA hu) (ok_eq hK) (me_callB (cr_sumA rfl) (ok_sum hK) T.n_sum (ml_cons (me_var (i := 1)) ml_nil) rfl) (me_look (me_ix hK hu (me_var (i := 0)) me_int)) rfl) (me_and (me_cmp (op_eqA hu) (ok_eq hK) (me_var (i := 2)) (me_look (me_ix hK hu (me_var (i := 0)) me_int)) rfl) (me_one (me_call (ok_50 hK T) (hr.mono (by decide)) T.d_50.g T.d_50.kp T.d_50.b (takes_of rfl rfl rfl rfl) (ma_cons (me_var (i := 3)) (ma_cons (me_ix hK hu (me_var (i := 0)) me_int) ma_nil))))))) mss_nil))))
/-! ### pairs_of -/
def N_33 : List Str := ["profile", "abc", "acb", "bac", "bca", "cab", "cba"]
def m_33 : Env → M Fl := (mSeq (mAsg (mVar .keep 0) (gSeqD 6 (gsCons (gN 1) (gsCons (gN 2) (gsCons (gN 3) (gsCons (gN 4) (gsCons (gN 5) (gsCons (gN 6) gsNil)))))))) (mSeq (mRet (mTup (mCons (mBin dAdd (mBin dAdd (mVar .look 1) (mVar .look 2)) (mVar .look 5)) (mCons (mBin dAdd (mBin dAdd (mVar .look 1) (mVar .look 3)) (mVar .look 4)) (mCons (mBin dAdd (mBin dAdd (mVar .look 4) (mVar .look 5)) (mVar .look 6)) mNil))))) mNext))
def f_33 : List D → M D := mDef 7 m_33
theorem sc_33 : FnScope N_33 ["profile"] (defScope (top 33)) := ⟨rfl, rfl, rfl, by decide +kernel, rfl, by decide +kernel, by decide +kernel⟩
theorem ok_33 (hK : K = c.K) (T : Txt c K w mg fa fd) : FnOk P w K mg base (L2.CX P w) 1 (fa 31) (fd 31) ["profile"] (spD c 1 f_33) :=
  fn_ok T.d_33.F sc_33 fun cdv A outer s H E B hr => by
    have hu := hr.units
    have hu65 := hr.units65
    have nd := sc_33.nd
    exact (mss_cons (ms_asg (me_var (i := 0)) (mg_seq hK rfl (mgs_cons (mg_name (i := 1) nd) (mgs_cons (mg_name (i := 2) nd) (mgs_cons (mg_name (i := 3) nd) (mgs_cons (mg_name (i := 4) nd) (mgs_cons (mg_name (i := 5) nd) (mgs_cons (mg_name (i := 6) nd) mgs_nil)))))))) (mss_cons (ms_ret (me_tup (ma_cons (me_add hK (me_add hK (me_var (i := 1)) (me_var (i := 2))) (me_var (i := 5))) (ma_cons (me_add hK (me_add hK (me_var (i := 1)) (me_var (i := 3))) (me_var (i := 4))) (ma_cons (me_add hK (me_add hK (me_var (i := 4)) (me_var (i := 5))) (me_var (i := 6))) ma_nil))))) mss_nil))
/-! ### is_profile -/
def N_37 : List Str := ["votes", "value"]
def m_37 : Env → M Fl := (mSeq (mDrop (mCall 1 f_30 (mCons (mVar .keep 0) mNil))) (mSeq (mIf (mOr (mNot (mTru (mCall 2 f_15 (mCons (mVar .keep 1) (mCons (mCl dLen (mCons (mC (.tup [(.str "abc"), (.str "acb"), (.str "bac"), (.str "bca"), (.str "cab"), (.str "cba")])) mNil)) mNil))))) (mAsB (mBin dNe (mCl dSum (mCons (mVar .look 1) mNil)) (mUn (dProp [(6, f_31_2)]) (mVar .keep 0))))) (mSeq (mRet (mC (.bl false))) mNext) mNext) (mSeq (mRet (mAndV (mBin dEq (mCall 1 f_33 (mCons (mVar .keep 1) mNil)) (mUn (dProp [(6, f_31_3)]) (mVar .keep 0))) (mCall 2 f_36 (mCons (mCall 1 f_34 (mCons (mVar .keep 1) mNil)) (mCons (mUn (dProp [(6, f_31_4)]) (mVar .keep 0)) mNil))))) mNext)))
def f_37 : List D → M D := mDef 2 m_37
theorem sc_37 : FnScope N_37 ["votes", "value"] (defScope (top 37)) := ⟨rfl, rfl, rfl, by decide +kernel, rfl, by decide +kernel, by decide +kernel⟩
theorem ok_37 (hK : K = c.K) (T : Txt c K w mg fa fd) : FnOk P w K mg base (L2.CX P w) 4 (fa 32) (fd 32) ["votes", "value"] (spD c 2 f_37) :=
  fn_ok T.d_37.F sc_37 fun cdv A outer s H E B hr => by
    have hu := hr.units
    have hu65 := hr.units65
    have nd := sc_37.nd
    exact (mss_cons (ms_expr (me_look (me_call (ok_30 hK T) (hr.mono (by decide)) T.d_30.g T.d_30.kp T.d_30.b (takes_of rfl rfl rfl rfl) (ma_cons (me_var (i := 0)) ma_nil)))) (mss_cons (ms_if (mt_w (mw_or (mt_not (mt_val hK (me_look (me_call (ok_15 hK T) (hr.mono (by decide)) T.d_15.g T.d_15.kp T.d_15.b (takes_of rfl rfl rfl rfl) (ma_cons (me_var (i := 1)) (ma_cons (me_callB cr_lenA (ok_len hK) T.n_len (ml_cons (me_glob T.c_ORDERS) ml_nil) rfl) ma_nil)))))) (mw_or1 (mt_cmp (op_neA hu) (ok_ne hK) (me_callB (cr_sumA rfl) (ok_sum hK) T.n_sum (ml_cons (me_var (i := 1)) ml_nil) rfl) (me_look (me_prop (propL (propT_of T.cl_Votes T.p_31_2 (ok_31_2 hK T) (hr.mono (by decide)) T.d_31_2.b) propN) (me_var (i := 0)))) rfl)))) (mss_cons (ms_ret me_bl) mss_nil) mss_nil) (mss_cons (ms_ret (me_and (me_cmp (op_eqA hu) (ok_eq hK) (me_look (me_call (ok_33 hK T) (hr.mono (by decide)) T.d_33.g T.d_33.kp T.d_33.b (takes_of rfl rfl rfl rfl) (ma_cons (me_var (i := 1)) ma_nil))) (me_look (me_prop (propL (propT_of T.cl_Votes T.p_31_3 (ok_31_3 hK T) (hr.mono (by decide)) T.d_31_3.b) propN) (me_var (i := 0)))) rfl) (me_one (me_call (ok_36 hK T) (hr.mono (by decide)) T.d_36.g T.d_36.kp T.d_36.b (takes_of rfl rfl rfl rfl) (ma_cons (me_call (ok_34 hK T) (hr.mono (by decide)) T.d_34.g T.d_34.kp T.d_34.b (takes_of rfl rfl rfl rfl) (ma_cons (me_var (i := 1)) ma_nil)) (ma_cons (me_prop (propL (propT_of T.cl_Votes T.p_31_4 (ok_31_4 hK T) (hr.mono (by decide)) T.d_31_4.b) propN) (me_var (i := 0))) ma_nil)))))) mss_nil)))
/-! ### _law_told_right -/
def N_55 : List Str := ["well", "plan", "every", "due", "mine", "first", "many", "some", "bent", "one", "is_so", "wide", "is_there", "own", "turn"]
def m_55 : Env → M Fl := (mSeq (mSetO 3 (mComp [13] (mSeqA (mVar .keep 2)) (gN 13) (mTru (mCall 2 f_50 (mCons (mBin dIx (mCall 1 f_46 (mCons (mVar .keep 13) mNil)) (mC (.int 1))) (mCons (mBin dIx (mVar .look 1) (mC (.int 2))) mNil)))) (mVar .keep 13))) (mFrz 3 (mSeq (mPar [4, 5, 6] [false, false, false] (mCons (mCl (dMake 4 f_31_0) (mCons (mBin dIx (mVar .look 1) (mC (.int 0))) (mCons (mBin dIx (mVar .look 1) (mC (.int 1))) (mCons (mBin dIx (mVar .look 1) (mC (.int 2))) mNil)))) (mCons (mIfE (mAsB (mBin dNe (mVar .look 3) (mLst mNil))) (mBin dIx (mVar .look 3) (mC (.int 0))) (mC .non)) (mCons (mCl dLen (mCons (mVar .look 3) mNil)) mNil)))) (mSeq (mIf (mAsB (mBin dNe (mCl dRepr (mCons (mLst (mCons (mCall 1 f_40 (mCons (mVar .keep 4) mNil)) (mCons (mCallK 0 1 [0] 1 f_41 mNil (mCons (mVar .keep 4) mNil)) mNil))) mNil)) (mCl dRepr (mCons (mLst (mCons (mVar .keep 5) (mCons (mVar .keep 6) mNil))) mNil)))) (mSeq (mRet (mC (.bl false))) mNext) mNext) (mSeq (mIf (mAnd (mAsB (mBin dLt (mBin dIx (mVar .look 1) (mC (.int 0))) (mC (.int 9)))) (mAsB (mBin dNe (mCl dRepr (mCons (mLst (mCons (mCallK 0 1 [0] 1 f_40 mNil (mCons (mVar .keep 4) mNil)) (mCons (mCall 1 f_41 (mCons (mVar .keep 4) mNil)) mNil))) mNil)) (mCl dRepr (mCons (mLst (mCons (mVar .keep 5) (mCons (mVar .keep 6) mNil))) mNil))))) (mSeq (mRet (mC (.bl false))) mNext) mNext) (mSeq (mSet 7 (mIfE (mAsB (mBin dNe (mVar .look 3) (mLst mNil))) (mLst (mCons (mBin dIx (mVar .look 3) (mC (.int 0))) (mCons (mBin dIx (mVar .look 3) (mUn dNeg (mC (.int 1)))) (mCons (mBin dIx (mVar .look 3) (mCall 2 f_44 (mCons (mVar .keep 0) (mCons (mVar .keep 6) mNil)))) mNil)))) (mLst (mCons (mCall 2 f_47 (mCons (mVar .keep 0) (mCons (mBin dIx (mVar .look 1) (mC (.int 0))) mNil))) mNil)))) (mSeq (mSetO 8 (mComp [14] (mRng1 (mC (.int 5))) (gN 14) mYes (mCall 2 f_54 (mCons (mVar .keep 0) (mCons (mBin dIx (mVar .look 7) (mBin dMod (mCl dInt (mCons (mVar .look 14) mNil)) (mCl dLen (mCons (mVar .look 7) mNil)))) mNil))))) (mFrz 8 (mSeq (mFor (mSeqA (mBin dAdd (mBin dAdd (mVar .look 7) (mVar .look 8)) (mComp [14] (mRng1 (mIfE (mAsB (mBin dNe (mVar .look 2) (mLst mNil))) (mC (.int 4)) (mC (.int 0)))) (gN 14) mYes (mCall 2 f_45 (mCons (mVar .keep 0) (mCons (mVar .keep 2) mNil)))))) (gN 9) (mSeq (mSet 10 (mCall 2 f_53 (mCons (mVar .keep 1) (mCons (mVar .keep 9) mNil)))) (mSeq (mIf (mAsB (mBin dNe (mCl dRepr (mCons (mLst (mCons (mCall 2 f_37 (mCons (mVar .keep 4) (mCons (mVar .keep 9) mNil))) (mCons (mCallK 0 2 [1, 0] 2 f_37 mNil (mCons (mVar .keep 9) (mCons (mVar .keep 4) mNil))) mNil))) mNil)) (mCl dRepr (mCons (mLst (mCons (mVar .keep 10) (mCons (mVar .keep 10) mNil))) mNil)))) (mSeq (mRet (mC (.bl false))) mNext) mNext) mNext))) (mSeq (mSet 11 (mCl (dMake 4 f_31_0) (mCons (mBin dIx (mVar .look 1) (mC (.int 0))) (mCons (mBin dIx (mVar .look 1) (mC (.int 1))) (mCons (mBin dMulT (mTup (mCons (mTup (mCons (mC (.int 0)) (mCons (mBin dIx (mVar .look 1) (mC (.int 0))) mNil))) mNil)) (mC (.int 3))) mNil))))) (mSeq (mSet 12 (mChain3 dLe dLe dLe (mCl dMax (mCons (mBin dIx (mVar .look 1) (mC (.int 1))) mNil)) (mBin dIx (mVar .look 1) (mC (.int 0))) (mCl dSum (mCons (mBin dIx (mVar .look 1) (mC (.int 1))) mNil)) (mBin dMul (mC (.int 2)) (mBin dIx (mVar .look 1) (mC (.int 0)))))) (mSeq (mRet (mBin dEq (mNotN (mCall 1 f_40 (mCons (mVar .keep 11) mNil))) (mVar .look 12))) mNext))))))))))))
def f_55 : List D → M D := mDef 15 m_55
theorem sc_55 : FnScope N_55 ["well", "plan", "every"] (defScope (top 55)) := ⟨rfl, rfl, rfl, by decide +kernel, rfl, by decide +kernel, by decide +kernel⟩
theorem ok_55 (hK : K = c.K) (T : Txt c K w mg fa fd) : FnG P w K mg base (L2.CX P w) 7 (fa 33) (fd 33) ["well", "plan", "every"] (spD c 3 f_55) :=
  fn_okG T.d_55.F sc_55 fun cdv A outer s H E B hr => by
    have hrg := hr
    have hr := hrg.r
    have hu := hr.units
    have hu65 := hr.units65
    have nd := sc_55.nd
    exact (mss_cons (ms_setComp (i := 3) hK rfl nd (mi_seqA hK (me_var (i := 2))) (blkOk_by (own := [("own", 13)]) (by kernel_rfl)) (fun _ _ _ _ _ => (pg_name (i := 13) nd rfl (by first | exact Or.inl rfl | exact Or.inr rfl))) (ng_name (by decide)) (fun _ _ _ _ _ _ => (mts_one (mt_val hK (me_look (me_call (ok_50 hK T) (hr.mono (by decide)) T.d_50.g T.d_50.kp T.d_50.b takes0 (ma_cons (me_ix hK hu (me_look (me_call (ok_46 hK T) (hr.mono (by decide)) T.d_46.g T.d_46.kp T.d_46.b takes0 (ma_cons (me_var (i := 13)) ma_nil))) me_int) (ma_cons (me_ix hK hu (me_var (i := 1)) me_int) ma_nil))))))) (fun _ _ _ _ _ _ => (me_var (i := 13)))) (mss_frz 3 (mss_cons (by first | exact ms_par3 (i := 4) (k := 5) (l := 6) (fl := [false, false, false]) rfl nd (mf_cons (fun _ => (me_make T.mk_Votes (ok_31_0 hK T) (hr.mono (by decide)) T.x_Votes T.d_31_0.b (ma_cons (me_ix hK hu (me_var (i := 1)) me_int) (ma_cons (me_ix hK hu (me_var (i := 1)) me_int) (ma_cons (me_ix hK hu (me_var (i := 1)) me_int) ma_nil))))) (mf_cons (fun _ => (me_if (mt_cmp (op_neA hu) (ok_ne hK) (me_var (i := 3)) (me_lst ma_nil) rfl) (me_ix hK hu (me_var (i := 3)) me_int) me_non)) (mf_cons (fun _ => (me_callB cr_lenA (ok_len hK) T.n_len (ml_cons (me_var (i := 3)) ml_nil) rfl)) mf_nil))) | exact ms_tup3 (i := 4) (k := 5) (l := 6) (fl := [false, false, false]) rfl nd (mf_cons (fun _ => (me_make T.mk_Votes (ok_31_0 hK T) (hr.mono (by decide)) T.x_Votes T.d_31_0.b (ma_cons (me_ix hK hu (me_var (i := 1)) me_int) (ma_cons (me_ix hK hu (me_var (i := 1)) me_int) (ma_cons (me_ix hK hu (me_var (i := 1)) me_int) ma_nil))))) (mf_cons (fun _ => (me_if (mt_cmp (op_neA hu) (ok_ne hK) (me_var (i := 3)) (me_lst ma_nil) rfl) (me_ix hK hu (me_var (i := 3)) me_int) me_non)) (mf_cons (fun _ => (me_callB cr_lenA (ok_len hK) T.n_len (ml_cons (me_var (i := 3)) ml_nil) rfl)) mf_nil)))) (mss_cons (ms_if (mt_cmp (op_neA hu) (ok_ne hK) (me_callB (cr_repr hrg) (ok_repr hK) T.n_repr (ml_cons (me_lst (ma_cons (me_call (ok_40 hK T) (hr.mono (by decide)) T.d_40.g T.d_40.kp T.d_40.b (takes_of rfl rfl rfl rfl) (ma_cons (me_var (i := 4)) ma_nil)) (ma_cons (me_callK0 (ks := ["votes"]) (runs_ok (ok_41 hK T) (hr.mono (by decide))) T.d_41.g T.d_41.kp T.kw_41_0_votes (takes_of rfl rfl rfl rfl) (mk_cons (me_var (i := 4)) mk_nil)) ma_nil))) ml_nil) rfl) (me_callB (cr_repr hrg) (ok_repr hK) T.n_repr (ml_cons (me_lst (ma_cons (me_var (i := 5)) (ma_cons (me_var (i := 6)) ma_nil))) ml_nil) rfl) rfl) (mss_cons (ms_ret me_bl) mss_nil) mss_nil) (mss_cons (ms_if (mt_w (mw_and (mt_cmp op_lt ok_lt (me_look (me_ix hK hu (me_var (i := 1)) me_int)) me_int rfl) (mw_and1 (mt_cmp (op_neA hu) (ok_ne hK) (me_callB (cr_repr hrg) (ok_repr hK) T.n_repr (ml_cons (me_lst (ma_cons (me_callK0 (ks := ["votes"]) (runs_ok (ok_40 hK T) (hr.mono (by decide))) T.d_40.g T.d_40.kp T.kw_40_0_votes (takes_of rfl rfl rfl rfl) (mk_cons (me_var (i := 4)) mk_nil)) (ma_cons (me_call (ok_41 hK T) (hr.mono (by decide)) T.d_41.g T.d_41.kp T.d_41.b (takes_of rfl rfl rfl rfl) (ma_cons (me_var (i := 4)) ma_nil)) ma_nil))) ml_nil) rfl) (me_callB (cr_repr hrg) (ok_repr hK) T.n_repr (ml_cons (me_lst (ma_cons (me_var (i := 5)) (ma_cons (me_var (i := 6)) ma_nil))) ml_nil) rfl) rfl)))) (mss_cons (ms_ret me_bl) mss_nil) mss_nil) (mss_cons (ms_set (i := 7) (me_if (mt_cmp (op_neA hu) (ok_ne hK) (me_var (i := 3)) (me_lst ma_nil) rfl) (me_lst (ma_cons (me_ix hK hu (me_var (i := 3)) me_int) (ma_cons (me_ix hK hu (me_var (i := 3)) (me_neg me_int)) (ma_cons (me_ix hK hu (me_var (i := 3)) (me_look (me_call (ok_44 hK T) (hr.mono (by decide)) T.d_44.g T.d_44.kp T.d_44.b (takes_of rfl rfl rfl rfl) (ma_cons (me_var (i := 0)) (ma_cons (me_var (i := 6)) ma_nil))))) ma_nil)))) (me_lst (ma_cons (me_call (ok_47 hK T) (hr.mono (by decide)) T.d_47.g T.d_47.kp T.d_47.b (takes_of rfl rfl rfl rfl) (ma_cons (me_var (i := 0)) (ma_cons (me_ix hK hu (me_var (i := 1)) me_int) ma_nil))) ma_nil))) nd) (mss_cons (ms_setComp (i := 8) hK rfl nd (mi_range1 T.n_range me_int) (blkOk_by (own := [("turn", 14)]) (by kernel_rfl)) (fun _ _ _ _ _ => (pg_name (i := 14) nd rfl (by first | exact Or.inl rfl | exact Or.inr rfl))) (ng_name (by decide)) (fun _ _ _ _ _ _ => mts_nil) (fun _ _ _ _ _ _ => (me_call (ok_54 hK T) (hr.mono (by decide)) T.d_54.g T.d_54.kp T.d_54.b takes0 (ma_cons (me_var (i := 0)) (ma_cons (me_ix hK hu (me_var (i := 7)) (me_mod (me_callTy call_int1 ok_int T.n_int (ml_cons (me_var (i := 14)) ml_nil) rfl) (me_callB cr_lenA (ok_len hK) T.n_len (ml_cons (me_var (i := 7)) ml_nil) rfl))) ma_nil))))) (mss_frz 8 (mss_cons (ms_for (passes_of rfl) rfl (mi_seqA hK (me_add hK (me_add hK (me_var (i := 7)) (me_var (i := 8))) (me_comp hK rfl nd (mi_range1 T.n_range (me_if (mt_cmp (op_neA hu) (ok_ne hK) (me_var (i := 2)) (me_lst ma_nil) rfl) me_int me_int)) (blkOk_by (own := [("turn", 14)]) (by kernel_rfl)) (fun _ _ _ _ _ => (pg_name (i := 14) nd rfl (by first | exact Or.inl rfl | exact Or.inr rfl))) (ng_name (by decide)) (fun _ _ _ _ _ _ => mts_nil) (fun _ _ _ _ _ _ => (me_call (ok_45 hK T) (hr.mono (by decide)) T.d_45.g T.d_45.kp T.d_45.b takes0 (ma_cons (me_var (i := 0)) (ma_cons (me_var (i := 2)) ma_nil))))))) (mg_name (i := 9) nd) (mss_cons (ms_set (i := 10) (me_call (ok_53 hK T) (hr.mono (by decide)) T.d_53.g T.d_53.kp T.d_53.b (takes_of rfl rfl rfl rfl) (ma_cons (me_var (i := 1)) (ma_cons (me_var (i := 9)) ma_nil))) nd) (mss_cons (ms_if (mt_cmp (op_neA hu) (ok_ne hK) (me_callB (cr_repr hrg) (ok_repr hK) T.n_repr (ml_cons (me_lst (ma_cons (me_call (ok_37 hK T) (hr.mono (by decide)) T.d_37.g T.d_37.kp T.d_37.b (takes_of rfl rfl rfl rfl) (ma_cons (me_var (i := 4)) (ma_cons (me_var (i := 9)) ma_nil))) (ma_cons (me_callK0 (ks := ["value", "votes"]) (runs_ok (ok_37 hK T) (hr.mono (by decide))) T.d_37.g T.d_37.kp T.kw_37_0_value_votes (takes_of rfl rfl rfl rfl) (mk_cons (me_var (i := 9)) (mk_cons (me_var (i := 4)) mk_nil))) ma_nil))) ml_nil) rfl) (me_callB (cr_repr hrg) (ok_repr hK) T.n_repr (ml_cons (me_lst (ma_cons (me_var (i := 10)) (ma_cons (me_var (i := 10)) ma_nil))) ml_nil) rfl) rfl) (mss_cons (ms_ret me_bl) mss_nil) mss_nil) mss_nil))) (mss_cons (ms_set (i := 11) (me_make T.mk_Votes (ok_31_0 hK T) (hr.mono (by decide)) T.x_Votes T.d_31_0.b (ma_cons (me_ix hK hu (me_var (i := 1)) me_int) (ma_cons (me_ix hK hu (me_var (i := 1)) me_int) (ma_cons (me_mulT hK (me_tup (ma_cons (me_tup (ma_cons me_int (ma_cons (me_ix hK hu (me_var (i := 1)) me_int) ma_nil))) ma_nil)) me_int) ma_nil)))) nd) (mss_cons (ms_set (i := 12) (me_chain3 op_le op_le op_le ok_le ok_le ok_le (me_callB (cr_maxA rfl) (ok_max hK) T.n_max (ml_cons (me_look (me_ix hK hu (me_var (i := 1)) me_int)) ml_nil) rfl) (me_look (me_ix hK hu (me_var (i := 1)) me_int)) (me_callB (cr_sumA rfl) (ok_sum hK) T.n_sum (ml_cons (me_look (me_ix hK hu (me_var (i := 1)) me_int)) ml_nil) rfl) (me_mul hK me_int (me_look (me_ix hK hu (me_var (i := 1)) me_int)))) nd) (mss_cons (ms_ret (me_cmp (op_eqA hu) (ok_eq hK) (me_notN (me_look (me_call (ok_40 hK T) (hr.mono (by decide)) T.d_40.g T.d_40.kp T.d_40.b (takes_of rfl rfl rfl rfl) (ma_cons (me_var (i := 11)) ma_nil)))) (me_var (i := 12)) rfl)) mss_nil))))))))))))
/-! ### _law_tried -/
def N_51 : List Str := ["plan", "rows", "turn", "longer", "own", "one", "found", "whole", "pairs", "firsts"]
def m_51 : Env → M Fl := (mSeq (mSet 1 (mLst (mCons (mTup mNil) mNil))) (mSeq (mFor (mRng1 (mC (.int 5))) (gN 2) (mSeq (mSetO 3 (mLst mNil)) (mSeq (mFor (mSeqA (mVar .keep 1)) (gN 4) (mSeq (mFor (mRng1 (mBin dAdd (mBin dSub (mBin dIx (mVar .look 0) (mC (.int 0))) (mCl dSum (mCons (mVar .look 4) mNil))) (mC (.int 1)))) (gN 5) (mSeq (mApp 3 (mBin dAdd (mVar .look 4) (mTup (mCons (mVar .keep 5) mNil)))) mNext)) mNext)) (mFrz 3 (mSeq (mSet 1 (mVar .keep 3)) mNext))))) (mSeq (mSetO 6 (mLst mNil)) (mSeq (mFor (mSeqA (mVar .keep 1)) (gN 4) (mSeq (mSet 7 (mBin dAdd (mVar .look 4) (mTup (mCons (mBin dSub (mBin dIx (mVar .look 0) (mC (.int 0))) (mCl dSum (mCons (mVar .look 4) mNil))) mNil)))) (mSeq (mAsg (mCall 1 f_46 (mCons (mVar .keep 7) mNil)) (gSeqD 2 (gsCons (gN 8) (gsCons (gN 9) gsNil)))) (mSeq (mIf (mAnd (mAsB (mBin dEq (mVar .look 8) (mBin dIx (mVar .look 0) (mC (.int 1))))) (mTru (mCall 2 f_50 (mCons (mVar .keep 9) (mCons (mBin dIx (mVar .look 0) (mC (.int 2))) mNil))))) (mSeq (mApp 6 (mVar .keep 7)) mNext) mNext) mNext)))) (mFrz 6 (mSeq (mRet (mVar .keep 6)) mNext))))))
def f_51 : List D → M D := mDef 10 m_51
theorem sc_51 : FnScope N_51 ["plan"] (defScope (top 51)) := ⟨rfl, rfl, rfl, by decide +kernel, rfl, by decide +kernel, by decide +kernel⟩
theorem ok_51 (hK : K = c.K) (T : Txt c K w mg fa fd) : FnOk P w K mg base (L2.CX P w) 2 (fa 34) (fd 34) ["plan"] (spD c 1 f_51) :=
  fn_ok T.d_51.F sc_51 fun cdv A outer s H E B hr => by
    have hu := hr.units
    have hu65 := hr.units65
    have nd := sc_51.nd
    exact (mss_cons (ms_set (i := 1) (me_lst (ma_cons (me_tup ma_nil) ma_nil)) nd) (mss_cons (ms_for (passes_of rfl) rfl (mi_range1 T.n_range me_int) (mg_name (i := 2) nd) (mss_cons (ms_setO (i := 3) (me_lst ma_nil) nd) (mss_cons (ms_for (passes_of rfl) rfl (mi_seqA hK (me_var (i := 1))) (mg_name (i := 4) nd) (mss_cons (ms_for (passes_of rfl) rfl (mi_range1 T.n_range (me_add hK (me_sub (me_look (me_ix hK hu (me_var (i := 0)) me_int)) (me_callB (cr_sumA rfl) (ok_sum hK) T.n_sum (ml_cons (me_var (i := 4)) ml_nil) rfl)) me_int)) (mg_name (i := 5) nd) (mss_cons (ms_append (i := 3) (me_add hK (me_var (i := 4)) (me_tup (ma_cons (me_var (i := 5)) ma_nil))) ⟨rfl, rfl, rfl, rfl, rfl⟩) mss_nil)) mss_nil)) (mss_frz 3 (mss_cons (ms_set (i := 1) (me_var (i := 3)) nd) mss_nil))))) (mss_cons (ms_setO (i := 6) (me_lst ma_nil) nd) (mss_cons (ms_for (passes_of rfl) rfl (mi_seqA hK (me_var (i := 1))) (mg_name (i := 4) nd) (mss_cons (ms_set (i := 7) (me_add hK (me_var (i := 4)) (me_tup (ma_cons (me_sub (me_look (me_ix hK hu (me_var (i := 0)) me_int)) (me_callB (cr_sumA rfl) (ok_sum hK) T.n_sum (ml_cons (me_var (i := 4)) ml_nil) rfl)) ma_nil))) nd) (mss_cons (ms_asg (me_call (ok_46 hK T) (hr.mono (by decide)) T.d_46.g T.d_46.kp T.d_46.b (takes_of rfl rfl rfl rfl) (ma_cons (me_var (i := 7)) ma_nil)) (mg_seq hK rfl (mgs_cons (mg_name (i := 8) nd) (mgs_cons (mg_name (i := 9) nd) mgs_nil)))) (mss_cons (ms_if (mt_w (mw_and (mt_cmp (op_eqA hu) (ok_eq hK) (me_var (i := 8)) (me_look (me_ix hK hu (me_var (i := 0)) me_int)) rfl) (mw_and1 (mt_val hK (me_look (me_call (ok_50 hK T) (hr.mono (by decide)) T.d_50.g T.d_50.kp T.d_50.b (takes_of rfl rfl rfl rfl) (ma_cons (me_var (i := 9)) (ma_cons (me_ix hK hu (me_var (i := 0)) me_int) ma_nil)))))))) (mss_cons (ms_append (i := 6) (me_var (i := 7)) ⟨rfl, rfl, rfl, rfl, rfl⟩) mss_nil) mss_nil) mss_nil)))) (mss_frz 6 (mss_cons (ms_ret (me_var (i := 6))) mss_nil))))))
/-! ### _law_rings -/
def N_52 : List Str := ["plan", "people", "pairs", "firsts", "twice", "base", "more", "one", "other", "many", "found", "z", "x", "add", "whole", "k"]
def m_52 : Env → M Fl := (mSeq (mAsg (mVar .keep 0) (gSeqD 3 (gsCons (gN 1) (gsCons (gN 2) (gsCons (gN 3) gsNil))))) (mSeq (mSet 4 (mBin dSub (mCl dSum (mCons (mVar .look 2) mNil)) (mVar .look 1))) (mSeq (mIf (mOr (mAsB (mBin dGt (mCl dMax (mCons (mVar .look 2) mNil)) (mVar .look 1))) (mNot (mAsB (mChain dLe dLe (mC (.int 0)) (mVar .look 4) (mVar .look 1))))) (mSeq (mRet (mLst mNil)) mNext) mNext) (mSeq (mPar [5, 6] [true, false] (mCons (mBin dMul (mLst (mCons (mC (.int 0)) mNil)) (mC (.int 6))) (mCons (mBin dSub (mVar .look 1) (mVar .look 4)) mNil))) (mSeq (mFor (mArgI dZip3 (mCons (mLst (mCons (mC (.int 1)) (mCons (mC (.int 2)) (mCons (mC (.int 5)) mNil)))) (mCons (mLst (mCons (mC (.int 3)) (mCons (mC (.int 4)) (mCons (mC (.int 0)) mNil)))) (mCons (mVar .keep 2) mNil)))) (gTupD 3 (gsCons (gN 7) (gsCons (gN 8) (gsCons (gN 9) gsNil)))) (mSeq (mAsg (mTup (mCons (mCl dMax (mCons (mC (.int 0)) (mCons (mBin dSub (mVar .look 9) (mVar .look 4)) mNil))) (mCons (mCl dMax (mCons (mC (.int 0)) (mCons (mBin dSub (mVar .look 4) (mVar .look 9)) mNil))) mNil))) (gTupD 2 (gsCons (gIxL 5 (mVar .look 7)) (gsCons (gIxL 5 (mVar .look 8)) gsNil)))) (mSeq (mSet 6 (mBin dSub (mVar .look 6) (mBin dIx (mVar .look 5) (mVar .look 7)))) mNext))) (mSeq (mSetO 10 (mLst mNil)) (mSeq (mFor (mRng1 (mBin dAdd (mVar .look 6) (mC (.int 1)))) (gN 11) (mSeq (mFor (mRng1 (mBin dAdd (mBin dSub (mVar .look 6) (mVar .look 11)) (mC (.int 1)))) (gN 12) (mSeq (mSet 13 (mLst (mCons (mVar .keep 11) (mCons (mVar .keep 12) (mCons (mBin dSub (mBin dSub (mVar .look 6) (mVar .look 11)) (mVar .look 12)) (mCons (mVar .keep 12) (mCons (mBin dSub (mBin dSub (mVar .look 6) (mVar .look 11)) (mVar .look 12)) (mCons (mVar .keep 11) mNil)))))))) (mSeq (mSet 14 (mCl dTupF (mCons (mComp [15] (mRng1 (mC (.int 6))) (gN 15) mYes (mBin dAdd (mBin dIx (mVar .look 5) (mVar .look 15)) (mBin dIx (mVar .look 13) (mVar .look 15)))) mNil))) (mSeq (mIf (mTru (mCall 2 f_50 (mCons (mBin dIx (mCall 1 f_46 (mCons (mVar .keep 14) mNil)) (mC (.int 1))) (mCons (mVar .keep 3) mNil)))) (mSeq (mApp 10 (mVar .keep 14)) mNext) mNext) mNext)))) mNext)) (mFrz 10 (mSeq (mRet (mVar .keep 10)) mNext)))))))))
def f_52 : List D → M D := mDef 16 m_52
theorem sc_52 : FnScope N_52 ["plan"] (defScope (top 52)) := ⟨rfl, rfl, rfl, by decide +kernel, rfl, by decide +kernel, by decide +kernel⟩
theorem ok_52 (hK : K = c.K) (T : Txt c K w mg fa fd) : FnOk P w K mg base (L2.CX P w) 2 (fa 35) (fd 35) ["plan"] (spD c 1 f_52) :=
  fn_ok T.d_52.F sc_52 fun cdv A outer s H E B hr => by
    have hu := hr.units
    have hu65 := hr.units65
    have nd := sc_52.nd
    exact (mss_cons (ms_asg (me_var (i := 0)) (mg_seq hK rfl (mgs_cons (mg_name (i := 1) nd) (mgs_cons (mg_name (i := 2) nd) (mgs_cons (mg_name (i := 3) nd) mgs_nil))))) (mss_cons (ms_set (i := 4) (me_sub (me_callB (cr_sumA rfl) (ok_sum hK) T.n_sum (ml_cons (me_var (i := 2)) ml_nil) rfl) (me_var (i := 1))) nd) (mss_cons (ms_if (mt_w (mw_or (mt_cmp op_gt ok_gt (me_callB (cr_maxA rfl) (ok_max hK) T.n_max (ml_cons (me_var (i := 2)) ml_nil) rfl) (me_var (i := 1)) rfl) (mw_or1 (mt_not (mt_chain op_le op_le ok_le ok_le me_int (me_var (i := 4)) (me_var (i := 1))))))) (mss_cons (ms_ret (me_lst ma_nil)) mss_nil) mss_nil) (mss_cons (by first | exact ms_par (i := 5) (k := 6) (fl := [true, false]) rfl nd (mf_cons (fun _ => (me_mul hK (me_lst (ma_cons me_int ma_nil)) me_int)) (mf_cons (fun _ => (me_sub (me_var (i := 1)) (me_var (i := 4)))) mf_nil)) | exact ms_tup2 (i := 5) (k := 6) (fl := [true, false]) rfl nd (mf_cons (fun _ => (me_mul hK (me_lst (ma_cons me_int ma_nil)) me_int)) (mf_cons (fun _ => (me_sub (me_var (i := 1)) (me_var (i := 4)))) mf_nil))) (mss_cons (ms_for (passes_of rfl) rfl (mi_zip3 hK T.n_zip (ma_cons (me_lst (ma_cons me_int (ma_cons me_int (ma_cons me_int ma_nil)))) (ma_cons (me_lst (ma_cons me_int (ma_cons me_int (ma_cons me_int ma_nil)))) (ma_cons (me_var (i := 2)) ma_nil)))) (mg_tup hK rfl (mgs_cons (mg_name (i := 7) nd) (mgs_cons (mg_name (i := 8) nd) (mgs_cons (mg_name (i := 9) nd) mgs_nil)))) (mss_cons (ms_asg (me_tup (ma_cons (me_callB (cr_maxA rfl) (ok_max hK) T.n_max (ml_cons me_int (ml_cons (me_sub (me_var (i := 9)) (me_var (i := 4))) ml_nil)) rfl) (ma_cons (me_callB (cr_maxA rfl) (ok_max hK) T.n_max (ml_cons me_int (ml_cons (me_sub (me_var (i := 4)) (me_var (i := 9))) ml_nil)) rfl) ma_nil))) (mg_tup hK rfl (mgs_cons (mg_ixL (W := fun cls d _ H => E cls d H) (i := 5) (me_var (i := 7))) (mgs_cons (mg_ixL (W := fun cls d _ H => E cls d H) (i := 5) (me_var (i := 8))) mgs_nil)))) (mss_cons (ms_set (i := 6) (me_sub (me_var (i := 6)) (me_look (me_ix hK hu (me_var (i := 5)) (me_var (i := 7))))) nd) mss_nil))) (mss_cons (ms_setO (i := 10) (me_lst ma_nil) nd) (mss_cons (ms_for (passes_of rfl) rfl (mi_range1 T.n_range (me_add hK (me_var (i := 6)) me_int)) (mg_name (i := 11) nd) (mss_cons (ms_for (passes_of rfl) rfl (mi_range1 T.n_range (me_add hK (me_sub (me_var (i := 6)) (me_var (i := 11))) me_int)) (mg_name (i := 12) nd) (mss_cons (ms_set (i := 13) (me_lst (ma_cons (me_var (i := 11)) (ma_cons (me_var (i := 12)) (ma_cons (me_sub (me_sub (me_var (i := 6)) (me_var (i := 11))) (me_var (i := 12))) (ma_cons (me_var (i := 12)) (ma_cons (me_sub (me_sub (me_var (i := 6)) (me_var (i := 11))) (me_var (i := 12))) (ma_cons (me_var (i := 11)) ma_nil))))))) nd) (mss_cons (ms_set (i := 14) (me_callTy call_tupleF (ok_tupF hK) T.n_tuple (ml_cons (me_comp hK rfl nd (mi_range1 T.n_range me_int) (blkOk_by (own := [("k", 15)]) (by kernel_rfl)) (fun _ _ _ _ _ => (pg_name (i := 15) nd rfl (by first | exact Or.inl rfl | exact Or.inr rfl))) (ng_name (by decide)) (fun _ _ _ _ _ _ => mts_nil) (fun _ _ _ _ _ _ => (me_add hK (me_look (me_ix hK hu (me_var (i := 5)) (me_var (i := 15)))) (me_look (me_ix hK hu (me_var (i := 13)) (me_var (i := 15))))))) ml_nil) rfl) nd) (mss_cons (ms_if (mt_val hK (me_look (me_call (ok_50 hK T) (hr.mono (by decide)) T.d_50.g T.d_50.kp T.d_50.b (takes_of rfl rfl rfl rfl) (ma_cons (me_ix hK hu (me_look (me_call (ok_46 hK T) (hr.mono (by decide)) T.d_46.g T.d_46.kp T.d_46.b (takes_of rfl rfl rfl rfl) (ma_cons (me_var (i := 14)) ma_nil))) me_int) (ma_cons (me_var (i := 3)) ma_nil))))) (mss_cons (ms_append (i := 10) (me_var (i := 14)) ⟨rfl, rfl, rfl, rfl, rfl⟩) mss_nil) mss_nil) mss_nil)))) mss_nil)) (mss_frz 10 (mss_cons (ms_ret (me_var (i := 10))) mss_nil)))))))))
/-! ### _law_right -/
def N_56 : List Str := ["well", "turn", "plan"]
def m_56 : Env → M Fl := (mSeq (mFor (mRng1 (mC (.int 3))) (gN 1) (mSeq (mSet 2 (mCall 2 f_49 (mCons (mVar .keep 0) (mCons (mBin dAdd (mC (.int 1)) (mCall 2 f_44 (mCons (mVar .keep 0) (mCons (mIfE (mAsB (mBin dEq (mVar .look 1) (mC (.int 0)))) (mC (.int 6)) (mC (.int 5))) mNil)))) mNil)))) (mSeq (mIf (mNot (mTru (mCall 3 f_55 (mCons (mVar .keep 0) (mCons (mVar .keep 2) (mCons (mCall 1 f_51 (mCons (mLst (mCons (mBin dIx (mVar .look 2) (mC (.int 0))) (mCons (mBin dIx (mVar .look 2) (mC (.int 1))) (mCons (mBin dMulT (mTup (mCons (mTup (mCons (mC (.int 0)) (mCons (mBin dIx (mVar .look 2) (mC (.int 0))) mNil))) mNil)) (mC (.int 3))) mNil)))) mNil)) mNil)))))) (mSeq (mRet (mC (.bl false))) mNext) mNext) mNext))) (mSeq (mSet 2 (mCall 2 f_49 (mCons (mVar .keep 0) (mCons (mBin dAdd (mC (.int 1)) (mCall 2 f_44 (mCons (mVar .keep 0) (mCons (mIfE (mAsB (mBin dEq (mCall 2 f_44 (mCons (mVar .keep 0) (mCons (mC (.int 4)) mNil))) (mC (.int 0)))) (mC (.int 60)) (mC (.int 20))) mNil)))) mNil)))) (mSeq (mRet (mCall 3 f_55 (mCons (mVar .keep 0) (mCons (mVar .keep 2) (mCons (mCall 1 f_52 (mCons (mLst (mCons (mBin dIx (mVar .look 2) (mC (.int 0))) (mCons (mBin dIx (mVar .look 2) (mC (.int 1))) (mCons (mBin dMulT (mTup (mCons (mTup (mCons (mC (.int 0)) (mCons (mBin dIx (mVar .look 2) (mC (.int 0))) mNil))) mNil)) (mC (.int 3))) mNil)))) mNil)) mNil))))) mNext)))
def f_56 : List D → M D := mDef 3 m_56
theorem sc_56 : FnScope N_56 ["well"] (defScope (top 56)) := ⟨rfl, rfl, rfl, by decide +kernel, rfl, by decide +kernel, by decide +kernel⟩
theorem ok_56 (hK : K = c.K) (T : Txt c K w mg fa fd) : FnG P w K mg base (L2.CX P w) 8 (fa 36) (fd 36) ["well"] (spD c 1 f_56) :=
  fn_okG T.d_56.F sc_56 fun cdv A outer s H E B hr => by
    have hrg := hr
    have hr := hrg.r
    have hu := hr.units
    have hu65 := hr.units65
    have nd := sc_56.nd
    exact (mss_cons (ms_for (passes_of rfl) rfl (mi_range1 T.n_range me_int) (mg_name (i := 1) nd) (mss_cons (ms_set (i := 2) (me_call (ok_49 hK T) (hr.mono (by decide)) T.d_49.g T.d_49.kp T.d_49.b (takes_of rfl rfl rfl rfl) (ma_cons (me_var (i := 0)) (ma_cons (me_add hK me_int (me_look (me_call (ok_44 hK T) (hr.mono (by decide)) T.d_44.g T.d_44.kp T.d_44.b (takes_of rfl rfl rfl rfl) (ma_cons (me_var (i := 0)) (ma_cons (me_if (mt_cmp (op_eqA hu) (ok_eq hK) (me_var (i := 1)) me_int rfl) me_int me_int) ma_nil))))) ma_nil))) nd) (mss_cons (ms_if (mt_not (mt_val hK (me_look (me_callR (runs_g (ok_55 hK T) (hrg.mono (by decide))) T.d_55.g T.d_55.kp T.d_55.b (takes_of rfl rfl rfl rfl) (ma_cons (me_var (i := 0)) (ma_cons (me_var (i := 2)) (ma_cons (me_call (ok_51 hK T) (hr.mono (by decide)) T.d_51.g T.d_51.kp T.d_51.b (takes_of rfl rfl rfl rfl) (ma_cons (me_lst (ma_cons (me_ix hK hu (me_var (i := 2)) me_int) (ma_cons (me_ix hK hu (me_var (i := 2)) me_int) (ma_cons (me_mulT hK (me_tup (ma_cons (me_tup (ma_cons me_int (ma_cons (me_ix hK hu (me_var (i := 2)) me_int) ma_nil))) ma_nil)) me_int) ma_nil)))) ma_nil)) ma_nil))))))) (mss_cons (ms_ret me_bl) mss_nil) mss_nil) mss_nil))) (mss_cons (ms_set (i := 2) (me_call (ok_49 hK T) (hr.mono (by decide)) T.d_49.g T.d_49.kp T.d_49.b (takes_of rfl rfl rfl rfl) (ma_cons (me_var (i := 0)) (ma_cons (me_add hK me_int (me_look (me_call (ok_44 hK T) (hr.mono (by decide)) T.d_44.g T.d_44.kp T.d_44.b (takes_of rfl rfl rfl rfl) (ma_cons (me_var (i := 0)) (ma_cons (me_if (mt_cmp (op_eqA hu) (ok_eq hK) (me_look (me_call (ok_44 hK T) (hr.mono (by decide)) T.d_44.g T.d_44.kp T.d_44.b (takes_of rfl rfl rfl rfl) (ma_cons (me_var (i := 0)) (ma_cons me_int ma_nil)))) me_int rfl) me_int me_int) ma_nil))))) ma_nil))) nd) (mss_cons (ms_ret (me_callR (runs_g (ok_55 hK T) (hrg.mono (by decide))) T.d_55.g T.d_55.kp T.d_55.b (takes_of rfl rfl rfl rfl) (ma_cons (me_var (i := 0)) (ma_cons (me_var (i := 2)) (ma_cons (me_call (ok_52 hK T) (hr.mono (by decide)) T.d_52.g T.d_52.kp T.d_52.b (takes_of rfl rfl rfl rfl) (ma_cons (me_lst (ma_cons (me_ix hK hu (me_var (i := 2)) me_int) (ma_cons (me_ix hK hu (me_var (i := 2)) me_int) (ma_cons (me_mulT hK (me_tup (ma_cons (me_tup (ma_cons me_int (ma_cons (me_ix hK hu (me_var (i := 2)) me_int) ma_nil))) ma_nil)) me_int) ma_nil)))) ma_nil)) ma_nil))))) mss_nil)))
/-! ### _law_well -/
def N_43 : List Str := ["script", "k", "own", "mixed", "each"]
def m_43 : Env → M Fl := (mSeq (mSet 2 (mIfE (mAsB (mBin dLt (mVar .look 1) (mCl dLen (mCons (mVar .look 0) mNil)))) (mCl dInt (mCons (mBin dIx (mVar .look 0) (mVar .look 1)) mNil)) (mBin dAdd (mBin dMul (mC (.int 6101)) (mVar .look 1)) (mC (.int 211))))) (mSeq (mSet 3 (mBin dAdd (mC (.int 510007)) (mBin dMul (mC (.int 877)) (mVar .look 1)))) (mSeq (mFor (mSeqA (mBin dAdd (mSl (mVar .look 0) mNo (mYesI (mC (.int 40)))) (mLst (mCons (mVar .keep 2) mNil)))) (gN 4) (mSeq (mSet 3 (mBin dMod (mCl dInt (mCons (mBin dAdd (mBin dMul (mVar .look 3) (mC (.int 36007))) (mCl dInt (mCons (mVar .look 4) mNil))) mNil)) (mC (.int 2147483423)))) mNext)) (mSeq (mRetF (mLst (mCons (mIfE (mOr (mAsB (mBin dLt (mVar .look 2) (mC (.int 0)))) (mAsB (mBin dGe (mVar .look 2) (mBin dPow (mC (.int 10)) (mC (.int 18)))))) (mCl dAbs (mCons (mVar .look 2) mNil)) (mC (.int 0))) (mCons (mVar .keep 3) (mCons (mC (.int 0)) mNil))))) mNext))))
def f_43 : List D → M D := mDefF 5 m_43
theorem sc_43 : FnScope N_43 ["script", "k"] (defScope (top 43)) := ⟨rfl, rfl, rfl, by decide +kernel, rfl, by decide +kernel, by decide +kernel⟩
theorem ok_43 (hK : K = c.K) (T : Txt c K w mg fa fd) : FnOk P w K mg base (L2.CX P w) 1 (fa 37) (fd 37) ["script", "k"] (spF c 2 f_43) :=
  fn_okF T.d_43.F sc_43 fun cdv A outer s H E B hr => by
    have hu := hr.units
    have hu65 := hr.units65
    have nd := sc_43.nd
    exact (mss_cons (ms_set (i := 2) (me_if (mt_cmp op_lt ok_lt (me_var (i := 1)) (me_callB cr_lenA (ok_len hK) T.n_len (ml_cons (me_var (i := 0)) ml_nil) rfl) rfl) (me_callTy call_int1 ok_int T.n_int (ml_cons (me_look (me_ix hK hu (me_var (i := 0)) (me_var (i := 1)))) ml_nil) rfl) (me_add hK (me_mul hK me_int (me_var (i := 1))) me_int)) nd) (mss_cons (ms_set (i := 3) (me_add hK me_int (me_mul hK me_int (me_var (i := 1)))) nd) (mss_cons (ms_for (passes_of rfl) rfl (mi_seqA hK (me_add hK (me_slice hK (me_var (i := 0)) mo_none (mo_some me_int)) (me_lst (ma_cons (me_var (i := 2)) ma_nil)))) (mg_name (i := 4) nd) (mss_cons (ms_set (i := 3) (me_mod (me_callTy call_int1 ok_int T.n_int (ml_cons (me_add hK (me_mul hK (me_var (i := 3)) me_int) (me_callTy call_int1 ok_int T.n_int (ml_cons (me_var (i := 4)) ml_nil) rfl)) ml_nil) rfl) me_int) nd) mss_nil)) (mss_cons (ms_retF (me_lst (ma_cons (me_if (mt_w (mw_or (mt_cmp op_lt ok_lt (me_var (i := 2)) me_int rfl) (mw_or1 (mt_cmp op_ge ok_ge (me_var (i := 2)) (me_pow me_int me_int) rfl)))) (me_callB call_abs ok_abs T.n_abs (ml_cons (me_var (i := 2)) ml_nil) rfl) me_int) (ma_cons (me_var (i := 3)) (ma_cons me_int ma_nil))))) mss_nil))))
/-! ### law -/
def N_57 : List Str := ["script", "k"]
def m_57 : Env → M Fl := (mSeq (mRet (mCl dAll (mCons (mComp [1] (mRng1 (mC (.int 2))) (gN 1) mYes (mCallJ f_56 (mCall 2 f_43 (mCons (mVar .keep 0) (mCons (mVar .keep 1) mNil))))) mNil))) mNext)
def f_57 : List D → M D := mDef 2 m_57
theorem sc_57 : FnScope N_57 ["script"] (defScope (top 57)) := ⟨rfl, rfl, rfl, by decide +kernel, rfl, by decide +kernel, by decide +kernel⟩
theorem ok_57 (hK : K = c.K) (nj : c.has = false) (T : Txt c K w mg fa fd) : FnG P w K mg base (L2.CX P w) 9 (fa 38) (fd 38) ["script"] (spD c 1 f_57) :=
  fn_okG T.d_57.F sc_57 fun cdv A outer s H E B hr => by
    have hrg := hr
    have hr := hrg.r
    have hu := hr.units
    have hu65 := hr.units65
    have nd := sc_57.nd
    exact (mss_cons (ms_ret (me_callB (cr_all rfl) (ok_all hK) T.n_all (ml_cons (me_comp hK rfl nd (mi_range1 T.n_range me_int) (blkOk_by (own := [("k", 1)]) (by kernel_rfl)) (fun _ _ _ _ _ => (pg_name (i := 1) nd rfl (by first | exact Or.inl rfl | exact Or.inr rfl))) (ng_name (by decide)) (fun _ _ _ _ _ _ => mts_nil) (fun _ _ _ _ _ _ => (me_callJR (fun q => (runs_g (ok_56 hK (T.wj nj q)) (hrg.mono (by decide)))) nj T.d_56.g T.d_56.kp T.d_56.b takes0 (me_callF (ok_43 hK T) (hr.mono (by decide)) T.d_43.g T.d_43.kp T.d_43.b takes0 (ma_cons (me_var (i := 0)) (ma_cons (me_var (i := 1)) ma_nil)))))) ml_nil) rfl)) mss_nil)
end
end Mir
set_option linter.all false
/-! Lx: lists of ints in ascending order of their elements; an ascending list is given by its members. Plain Lean. -/
namespace Lx
/-- lists of ints, one ahead of the other, of one length -/
def lx : List Int → List Int → Prop
  | x :: xs, y :: ys => x < y ∨ (x = y ∧ lx xs ys)
  | _, _ => False
theorem lx_irr : ∀ xs : List Int, ¬ lx xs xs
  | [], h => h
  | x :: xs, h => h.elim (fun h => Int.lt_irrefl _ h) fun h => lx_irr xs h.2
theorem lx_asymm : ∀ {xs ys : List Int}, lx xs ys → ¬ lx ys xs
  | [], _, h, _ => h
  | _ :: _, [], h, _ => h
  | x :: xs, y :: ys, h, g => by
    rcases h with h | ⟨h, h'⟩ <;> rcases g with g | ⟨g, g'⟩
    · omega
    · omega
    · omega
    · exact lx_asymm h' g'
theorem lx_trans : ∀ {xs ys zs : List Int}, lx xs ys → lx ys zs → lx xs zs
  | [], _, _, h, _ => h.elim
  | _ :: _, [], _, h, _ => h.elim
  | _ :: _, _ :: _, [], _, h => h.elim
  | x :: xs, y :: ys, z :: zs, h, g => by
    rcases h with h | ⟨h, h'⟩ <;> rcases g with g | ⟨g, g'⟩
    · exact .inl (by omega)
    · exact .inl (by omega)
    · exact .inl (by omega)
    · exact .inr ⟨by omega, lx_trans h' g'⟩
/-- two ascending lists with the same members are the same -/
theorem asc_eq {α : Type} {R : α → α → Prop} (irr : ∀ x, ¬ R x x) (asym : ∀ {x y}, R x y → ¬ R y x) : ∀ {a b : List α}, a.Pairwise R → b.Pairwise R → (∀ x, x ∈ a ↔ x ∈ b) → a = b
  | [], [], _, _, _ => rfl
  | [], y :: b, _, _, h => by have := (h y).mpr List.mem_cons_self; cases this
  | x :: a, [], _, _, h => by have := (h x).mp List.mem_cons_self; cases this
  | x :: a, y :: b, ha, hb, h => by
    rw [List.pairwise_cons] at ha hb
    have e : x = y := by
      rcases List.mem_cons.mp ((h x).mp List.mem_cons_self) with e | e
      · exact e
      · rcases List.mem_cons.mp ((h y).mpr List.mem_cons_self) with g | g
        · exact g.symm
        · exact absurd (ha.1 y g) (asym (hb.1 x e))
    subst e
    congr 1
    refine asc_eq irr asym ha.2 hb.2 fun z => ?_
    constructor
    · intro hz
      rcases List.mem_cons.mp ((h z).mp (List.mem_cons_of_mem _ hz)) with e | e
      · subst e; exact absurd (ha.1 _ hz) (irr _)
      · exact e
    · intro hz
      rcases List.mem_cons.mp ((h z).mpr (List.mem_cons_of_mem _ hz)) with e | e
      · subst e; exact absurd (hb.1 _ hz) (irr _)
      · exact e
theorem asc_lx {a b : List (List Int)} (ha : a.Pairwise lx) (hb : b.Pairwise lx) (h : ∀ x, x ∈ a ↔ x ∈ b) : a = b := asc_eq lx_irr (fun h => lx_asymm h) ha hb h
theorem pw_upto (a b : Int) : (Q70.upto a b).Pairwise (· < ·) := by
  unfold Q70.upto
  rw [List.pairwise_map]
  refine List.Pairwise.imp (fun h => ?_) List.pairwise_lt_range
  omega
theorem pw_flat {α β : Type} {R : β → β → Prop} {S : α → α → Prop} (f : α → List β) : ∀ {l : List α}, l.Pairwise S → (∀ x ∈ l, (f x).Pairwise R) → (∀ x y, S x y → x ∈ l → y ∈ l → ∀ u ∈ f x, ∀ v ∈ f y, R u v) → (l.flatMap f).Pairwise R
  | [], _, _, _ => List.Pairwise.nil
  | x :: l, h, h1, h2 => by
    rw [List.pairwise_cons] at h
    rw [List.flatMap_cons, List.pairwise_append]
    refine ⟨h1 x List.mem_cons_self, pw_flat f h.2 (fun y hy => h1 y (List.mem_cons_of_mem _ hy)) fun y z s hy hz => h2 y z s (List.mem_cons_of_mem _ hy) (List.mem_cons_of_mem _ hz), fun u hu v hv => ?_⟩
    obtain ⟨y, hy, hv⟩ := List.mem_flatMap.mp hv
    exact h2 x y (h.1 y hy) List.mem_cons_self (List.mem_cons_of_mem _ hy) u hu v hv
end Lx
set_option linter.all false
/-! P73: profiles by their first two numbers, by trying, by rings. Plain Lean. -/
namespace P73
open Q70 Lx
/-- profiles of so many people with these pairs -/
def Pr (p p0 p1 p2 : Int) (w : List Int) : Prop := ∃ a b c d e f : Int, w = [a, b, c, d, e, f] ∧ 0 ≤ a ∧ 0 ≤ b ∧ 0 ≤ c ∧ 0 ≤ d ∧ 0 ≤ e ∧ 0 ≤ f ∧ a + b + c + d + e + f = p ∧ a + b + e = p0 ∧ a + c + d = p1 ∧ d + e + f = p2
/-- by the first two numbers -/
def withAB (p p0 p1 p2 a b : Int) : List Int := [a, b, p1 - a - (p2 - (p0 - a - b) - (p - p0 - p1 + a)), p2 - (p0 - a - b) - (p - p0 - p1 + a), p0 - a - b, p - p0 - p1 + a]
def allP (p p0 p1 p2 : Int) (fits : List Int → Bool) : List (List Int) := (upto 0 (min p p0)).flatMap fun a => ((upto 0 (min p p0 - a)).map (withAB p p0 p1 p2 a)).filter fun w => decide (∀ x ∈ w, 0 ≤ x) && fits w
theorem mem_allP {p p0 p1 p2 : Int} {fits : List Int → Bool} {w : List Int} : w ∈ allP p p0 p1 p2 fits ↔ Pr p p0 p1 p2 w ∧ fits w = true := by
  unfold allP
  rw [List.mem_flatMap]
  constructor
  · rintro ⟨a, ha, hw⟩
    rw [List.mem_filter] at hw
    obtain ⟨hw, h2⟩ := hw
    obtain ⟨b, hb, rfl⟩ := List.mem_map.mp hw
    rw [Bool.and_eq_true, decide_eq_true_iff] at h2
    refine ⟨⟨a, b, _, _, _, _, rfl, ?_⟩, h2.2⟩
    have h := h2.1
    simp only [withAB, List.mem_cons, List.not_mem_nil, or_false, forall_eq_or_imp, forall_eq] at h
    omega
  · rintro ⟨⟨a, b, c, d, e, f, rfl, h⟩, hf⟩
    refine ⟨a, mem_upto.mpr (by omega), List.mem_filter.mpr ⟨List.mem_map.mpr ⟨b, mem_upto.mpr (by omega), ?_⟩, ?_⟩⟩
    · unfold withAB
      simp only [List.cons.injEq, and_true, true_and]
      omega
    · rw [Bool.and_eq_true, decide_eq_true_iff]
      refine ⟨?_, hf⟩
      simp only [List.mem_cons, List.not_mem_nil, or_false, forall_eq_or_imp, forall_eq]
      omega
theorem pw_two {g : Int → Int → List Int} {F : List Int → Bool} (M : Int) (k : Int → Int) (hg : ∀ a b a' b', (a < a' ∨ (a = a' ∧ b < b')) → lx (g a b) (g a' b')) : ((upto 0 M).flatMap fun a => ((upto 0 (k a)).map (g a)).filter F).Pairwise lx := by
  refine pw_flat _ (pw_upto 0 M) (fun a _ => ?_) fun a a' h _ _ u hu v hv => ?_
  · refine List.Pairwise.filter _ (List.Pairwise.map (R := fun b b' : Int => b < b') _ (fun b b' h => hg _ _ _ _ (.inr ⟨rfl, h⟩)) (pw_upto 0 (k a)))
  · obtain ⟨b, _, rfl⟩ := List.mem_map.mp (List.mem_filter.mp hu).1
    obtain ⟨b', _, rfl⟩ := List.mem_map.mp (List.mem_filter.mp hv).1
    exact hg _ _ _ _ (.inl h)
theorem pw_allP {p p0 p1 p2 : Int} {fits : List Int → Bool} : (allP p p0 p1 p2 fits).Pairwise lx := pw_two _ _ fun a b a' b' h => by
  rcases h with h | ⟨rfl, h⟩
  · exact .inl h
  · exact .inr ⟨rfl, .inl h⟩
/-! ### by trying -/
theorem mem_byF : ∀ {n : Nat} {r : Int} {w : List Int}, w ∈ byF n r ↔ w.length = n ∧ (∀ x ∈ w, 0 ≤ x) ∧ (n = 0 ∨ sumI w ≤ r)
  | 0, r, w => by
    show w ∈ [[]] ↔ _
    rw [List.mem_singleton]
    constructor
    · rintro rfl; exact ⟨rfl, fun x hx => (List.not_mem_nil hx).elim, .inl rfl⟩
    · intro h; exact List.length_eq_zero_iff.mp h.1
  | n + 1, r, w => by
    show (w ∈ (upto 0 r).flatMap fun x => (byF n (r - x)).map (x :: ·)) ↔ _
    rw [List.mem_flatMap]
    constructor
    · rintro ⟨x, hx, hw⟩
      obtain ⟨o, ho, rfl⟩ := List.mem_map.mp hw
      obtain ⟨h1, h2, h3⟩ := mem_byF.mp ho
      have hx := mem_upto.mp hx
      refine ⟨by rw [List.length_cons, h1], fun y hy => ?_, .inr ?_⟩
      · rcases List.mem_cons.mp hy with rfl | hy
        · exact hx.1
        · exact h2 y hy
      · rw [sumI_cons]
        rcases h3 with h3 | h3
        · subst h3
          rw [List.length_eq_zero_iff.mp h1]
          show x + 0 ≤ r
          omega
        · omega
    · rintro ⟨h1, h2, h3⟩
      cases w with
      | nil => cases h1
      | cons x o =>
        have hs : 0 ≤ sumI o := by
          have key : ∀ l : List Int, (∀ x ∈ l, 0 ≤ x) → 0 ≤ sumI l := fun l => by
            induction l with
            | nil => intro _; exact Int.le_refl _
            | cons y l ih => intro h; have := h y List.mem_cons_self; have := ih fun z hz => h z (List.mem_cons_of_mem _ hz); rw [sumI_cons]; omega
          exact key o fun y hy => h2 y (List.mem_cons_of_mem _ hy)
        have hx := h2 x List.mem_cons_self
        rcases h3 with h3 | h3
        · cases h3
        · rw [sumI_cons] at h3
          exact ⟨x, mem_upto.mpr ⟨hx, by omega⟩, List.mem_map.mpr ⟨o, mem_byF.mpr ⟨by simpa using h1, fun y hy => h2 y (List.mem_cons_of_mem _ hy), .inr (by omega)⟩, rfl⟩⟩
theorem pw_byF : ∀ (n : Nat) (r : Int), (byF n r).Pairwise lx
  | 0, _ => List.pairwise_singleton _ _
  | n + 1, r => by
    refine pw_flat _ (pw_upto 0 r) (fun x _ => ?_) fun x y h _ _ u hu v hv => ?_
    · exact List.Pairwise.map _ (fun a b h => .inr ⟨rfl, h⟩) (pw_byF n (r - x))
    · obtain ⟨o, _, rfl⟩ := List.mem_map.mp hu
      obtain ⟨o', _, rfl⟩ := List.mem_map.mp hv
      exact .inl h
theorem lx_fin (r : Int) : ∀ {a b : List Int}, lx a b → lx (a ++ [r - sumI a]) (b ++ [r - sumI b]) := by
  have key : ∀ {a b : List Int} (x y : Int), lx a b → lx (a ++ [x]) (b ++ [y]) := by
    intro a
    induction a with
    | nil => intro b x y h; exact h.elim
    | cons u a ih =>
      intro b x y h
      cases b with
      | nil => exact h.elim
      | cons v b =>
        rcases h with h | ⟨h, h'⟩
        · exact .inl h
        · exact .inr ⟨h, ih x y h'⟩
  intro a b h
  exact key _ _ h
/-- what the law counts of a profile -/
def cnt (w : List Int) : List Int × List Int := match w with
  | [a, b, c, d, e, f] => ([a + b + e, a + c + d, d + e + f], [a + b, c + d, e + f])
  | _ => ([], [])
def trd (p p0 p1 p2 : Int) (fits : List Int → Bool) : List (List Int) := ((byF 5 p).map (fin p)).filter fun w => decide ((cnt w).1 = [p0, p1, p2]) && fits w
theorem pw_trd {p p0 p1 p2 : Int} {fits : List Int → Bool} : (trd p p0 p1 p2 fits).Pairwise lx := List.Pairwise.filter _ (List.Pairwise.map _ (fun a b h => lx_fin p h) (pw_byF 5 p))
theorem five {o : List Int} (h : o.length = 5) : ∃ a b c d e, o = [a, b, c, d, e] := by
  match o, h with
  | [a, b, c, d, e], _ => exact ⟨a, b, c, d, e, rfl⟩
theorem mem_trd {p p0 p1 p2 : Int} {fits : List Int → Bool} {w : List Int} : w ∈ trd p p0 p1 p2 fits ↔ Pr p p0 p1 p2 w ∧ fits w = true := by
  unfold trd
  rw [List.mem_filter, List.mem_map, Bool.and_eq_true, decide_eq_true_iff]
  constructor
  · rintro ⟨⟨o, ho, rfl⟩, h2, h3⟩
    refine ⟨?_, h3⟩
    obtain ⟨g1, g2, g3⟩ := mem_byF.mp ho
    obtain ⟨a, b, c, d, e, rfl⟩ := five g1
    have g3 : a + (b + (c + (d + (e + 0)))) ≤ p := g3.elim (fun z => by cases z) id
    have h2 : [a + b + e, a + c + d, d + e + (p - (a + (b + (c + (d + (e + 0))))))] = [p0, p1, p2] := h2
    simp only [List.mem_cons, List.not_mem_nil, or_false, forall_eq_or_imp, forall_eq, List.cons.injEq, and_true] at g2 h2
    exact ⟨a, b, c, d, e, p - (a + (b + (c + (d + (e + 0))))), rfl, by omega⟩
  · rintro ⟨⟨a, b, c, d, e, f, rfl, h⟩, hf⟩
    refine ⟨⟨[a, b, c, d, e], mem_byF.mpr ⟨rfl, ?_, .inr ?_⟩, ?_⟩, ?_, hf⟩
    · simp only [List.mem_cons, List.not_mem_nil, or_false, forall_eq_or_imp, forall_eq]; omega
    · show a + (b + (c + (d + (e + 0)))) ≤ p; omega
    · show [a, b, c, d, e, p - (a + (b + (c + (d + (e + 0)))))] = _
      simp only [List.cons.injEq, and_true, true_and]; omega
    · show [a + b + e, a + c + d, d + e + f] = _
      simp only [List.cons.injEq, and_true]; omega
/-- the program's list is the law's, by trying -/
theorem all_trd (p p0 p1 p2 : Int) (fits : List Int → Bool) : allP p p0 p1 p2 fits = trd p p0 p1 p2 fits := asc_lx pw_allP pw_trd fun w => mem_allP.trans mem_trd.symm
/-! ### by rings -/
/-- from the base, z, x, and the rest of so many more -/
def ringW (b0 b1 b2 b3 b4 b5 m z x : Int) : List Int := [b0 + z, b1 + x, b2 + (m - z - x), b3 + x, b4 + (m - z - x), b5 + z]
def more (p t p0 p1 p2 : Int) : Int := p - t - max 0 (p0 - t) - max 0 (p1 - t) - max 0 (p2 - t)
def ringP (p t p0 p1 p2 : Int) (fits : List Int → Bool) : List (List Int) :=
  (upto 0 (more p t p0 p1 p2)).flatMap fun z => ((upto 0 (more p t p0 p1 p2 - z)).map (ringW (max 0 (t - p2)) (max 0 (p0 - t)) (max 0 (p1 - t)) (max 0 (t - p0)) (max 0 (t - p1)) (max 0 (p2 - t)) (more p t p0 p1 p2) z)).filter fits
theorem pw_ring {p t p0 p1 p2 : Int} {fits : List Int → Bool} : (ringP p t p0 p1 p2 fits).Pairwise lx := pw_two _ _ fun a b a' b' h => by
  rcases h with h | ⟨rfl, h⟩
  · exact .inl (by omega)
  · exact .inr ⟨rfl, .inl (by omega)⟩
theorem mem_ring {p p0 p1 p2 : Int} {fits : List Int → Bool} {w : List Int} (h0 : p0 ≤ p) (h1 : p1 ≤ p) (h2 : p2 ≤ p) (ht : 0 ≤ p0 + p1 + p2 - p) (ht2 : p0 + p1 + p2 - p ≤ p) :
    w ∈ ringP p (p0 + p1 + p2 - p) p0 p1 p2 fits ↔ Pr p p0 p1 p2 w ∧ fits w = true := by
  unfold ringP
  rw [List.mem_flatMap]
  constructor
  · rintro ⟨z, hz, hw⟩
    rw [List.mem_filter] at hw
    obtain ⟨hw, hf⟩ := hw
    obtain ⟨x, hx, rfl⟩ := List.mem_map.mp hw
    have hz := mem_upto.mp hz
    have hx := mem_upto.mp hx
    unfold more at hz hx ⊢
    exact ⟨⟨_, _, _, _, _, _, rfl, by omega⟩, hf⟩
  · rintro ⟨⟨a, b, c, d, e, f, rfl, h⟩, hf⟩
    refine ⟨min a f, mem_upto.mpr (by unfold more; omega), List.mem_filter.mpr ⟨List.mem_map.mpr ⟨min b d, mem_upto.mpr (by unfold more; omega), ?_⟩, hf⟩⟩
    unfold ringW more
    simp only [List.cons.injEq, and_true]
    omega
theorem all_ring {p p0 p1 p2 : Int} {fits : List Int → Bool} (h0 : p0 ≤ p) (h1 : p1 ≤ p) (h2 : p2 ≤ p) (ht : 0 ≤ p0 + p1 + p2 - p) (ht2 : p0 + p1 + p2 - p ≤ p) : allP p p0 p1 p2 fits = ringP p (p0 + p1 + p2 - p) p0 p1 p2 fits :=
  asc_lx pw_allP pw_ring fun w => mem_allP.trans (mem_ring h0 h1 h2 ht ht2).symm
theorem all_none {p p0 p1 p2 : Int} {fits : List Int → Bool} (h : p < p0 ∨ p < p1 ∨ p < p2 ∨ p0 + p1 + p2 - p < 0 ∨ p < p0 + p1 + p2 - p) : allP p p0 p1 p2 fits = [] := by
  refine List.eq_nil_iff_forall_not_mem.mpr fun w hw => ?_
  obtain ⟨⟨a, b, c, d, e, f, _, g⟩, _⟩ := mem_allP.mp hw
  omega
/-- there is one just if -/
theorem some_iff {p p0 p1 p2 : Int} {fits : List Int → Bool} (n0 : 0 ≤ p0) (n1 : 0 ≤ p1) (n2 : 0 ≤ p2) (hf : ∀ w, Pr p p0 p1 p2 w → fits w = true) : allP p p0 p1 p2 fits ≠ [] ↔ (p0 ≤ p ∧ p1 ≤ p ∧ p2 ≤ p) ∧ p ≤ p0 + p1 + p2 ∧ p0 + p1 + p2 ≤ 2 * p := by
  constructor
  · intro h
    by_cases q : p < p0 ∨ p < p1 ∨ p < p2 ∨ p0 + p1 + p2 - p < 0 ∨ p < p0 + p1 + p2 - p
    · exact absurd (all_none q) h
    · omega
  · rintro ⟨⟨h0, h1, h2⟩, h3, h4⟩ z
    have hw : Pr p p0 p1 p2 (ringW (max 0 (p0 + p1 + p2 - p - p2)) (max 0 (p0 - (p0 + p1 + p2 - p))) (max 0 (p1 - (p0 + p1 + p2 - p))) (max 0 (p0 + p1 + p2 - p - p0)) (max 0 (p0 + p1 + p2 - p - p1)) (max 0 (p2 - (p0 + p1 + p2 - p))) (more p (p0 + p1 + p2 - p) p0 p1 p2) 0 0) := by
      unfold more ringW
      exact ⟨_, _, _, _, _, _, rfl, by omega⟩
    have : _ ∈ allP p p0 p1 p2 fits := mem_allP.mpr ⟨hw, hf _ hw⟩
    rw [z] at this
    cases this
/-- the law's list, whatever the firsts, and among them those within -/
theorem filter_all {p p0 p1 p2 : Int} {f g : List Int → Bool} (hf : ∀ w, Pr p p0 p1 p2 w → f w = true) : (allP p p0 p1 p2 f).filter g = allP p p0 p1 p2 g := by
  refine asc_lx (List.Pairwise.filter _ pw_allP) pw_allP fun w => ?_
  rw [List.mem_filter, mem_allP, mem_allP]
  exact ⟨fun h => ⟨h.1.1, h.2⟩, fun h => ⟨⟨h.1, hf w h.1⟩, h.2⟩⟩
end P73
set_option Elab.async false
set_option linter.all false
set_option maxRecDepth 100000
set_option maxHeartbeats 4000000
/-! K73a: what the program's defs give. -/
namespace Mir
open PySem L2 PySem.Spec PyProof.Rows
open Q70 (upto)
open P73
variable {j : List Int}
theorem c11 {i : Int} : f_11 [.int i] j = .ok (.bl true) j := rfl
theorem c12 {v a b : Int} : f_12 [.int v, .int a, .int b] j = .ok (.bl (decide (a ≤ v ∧ v ≤ b))) j := by
  apply of_wp
  unfold f_12
  rw [wp_def]
  unfold m_12
  simp [c11]
  by_cases h : a ≤ v <;> simp [h]
theorem c13 {v : Int} : f_13 [.int v] j = .ok (.bl (decide (0 ≤ v))) j := by
  apply of_wp
  unfold f_13
  rw [wp_def]
  unfold m_13
  simp [c11]
theorem c25 {p : Int} (h : 1 ≤ p ∧ p ≤ 60) : f_25 [.int p, .int 60] j = .ok .non j := by
  apply of_wp
  unfold f_25
  rw [wp_def]
  unfold m_25
  simp [c12, h]
theorem c14 {ds : List D} {n : Nat} : f_14 [.tup ds, .int n] j = .ok (.bl (decide (ds.length = n))) j := by
  apply of_wp
  unfold f_14
  rw [wp_def]
  unfold m_14
  simp [isTy]
  congr 1
  exact Int.ofNat_inj
theorem all_dec {α : Type} (p : α → Prop) [DecidablePred p] (xs : List α) : (xs.map fun x => decide (p x)).all id = decide (∀ x ∈ xs, p x) := by
  induction xs with
  | nil => rfl
  | cons x xs ih => rw [List.map_cons, List.all_cons, ih]; simp
theorem map_bl {α : Type} (f : α → Bool) (xs : List α) : xs.map (fun x => D.bl (f x)) = (xs.map f).map D.bl := by rw [List.map_map]; rfl
theorem c15 {xs : List Int} {n : Nat} (hl : xs.length ≤ 1000) : f_15 [Ti xs, .int n] j = .ok (.bl (decide (xs.length = n ∧ ∀ x ∈ xs, 0 ≤ x))) j := by
  apply of_wp
  unfold f_15 Ti
  rw [wp_def]
  unfold m_15
  simp [c14]
  by_cases h : xs.length = n
  · simp [h]
    refine ⟨by omega, ?_⟩
    refine wp_lcA D.int (fun x => .bl (decide (0 ≤ x))) (fun x _ => by simp [c13]) ?_
    rw [map_bl, wp_allB, all_dec]
    simp
  · simp [h]
theorem c20 {e : Int × Int} : f_20 [T2 e] j = .ok (.bl (decide ((0 ≤ e.1 ∧ e.1 ≤ 4000) ∧ (0 ≤ e.2 ∧ e.2 ≤ 4000) ∧ e.1 ≤ e.2))) j := by
  apply of_wp
  unfold f_20 T2
  rw [wp_def]
  unfold m_20
  have e2 : ([.int e.1, .int e.2] : List D) = [e.1, e.2].map D.int := rfl
  have c14' : f_14 [.tup [.int e.1, .int e.2], .int 2] j = .ok (.bl true) j := rfl
  simp [c14']
  rw [e2]
  refine wp_lcA D.int (fun x => .bl (decide (0 ≤ x ∧ x ≤ 4000))) (fun x _ => by simp [c12]) ?_
  rw [map_bl, wp_allB, all_dec]
  simp
  by_cases h : (0 ≤ e.1 ∧ e.1 ≤ 4000) ∧ (0 ≤ e.2 ∧ e.2 ≤ 4000)
  · simp [h]
  · simp [h]
    intro h1 h2 h3 h4
    exact absurd ⟨⟨h1, h2⟩, h3, h4⟩ h
end Mir
set_option Elab.async false
set_option linter.all false
set_option maxRecDepth 100000
set_option maxHeartbeats 4000000
/-! K73b: votes are made. -/
namespace Mir
open PySem L2 PySem.Spec PyProof.Rows
open Q70 (upto)
open P73
variable {j : List Int}
def VotesD (p : Int) (ps : List Int) (fs : List (Int × Int)) (t : Str) : D := .ins 6 ["own_people", "own_voters", "own_pairs", "own_firsts", "own_text"] [.int p, .tup (List.replicate p.toNat .non), Ti ps, .tup (fs.map T2), .str t]
def Sm (x : Int) : Prop := 0 ≤ x ∧ x < 100000
theorem Sm.log {x : Int} (h : Sm x) : x.natAbs.log2 < 1920 := by
  have := log2_lt h.1 (by unfold Sm at h; omega)
  exact this
theorem Sm.len {x : Int} (h : Sm x) : ((toString x : String) : Str).length ≤ 1921 := int_text_len_1921 h.log
theorem c18 {xs : List Int} (hx : ∀ x ∈ xs, Sm x) (hl : xs.length ≤ 1000) : wp (f_18 [Ti xs] j) fun d j' => j' = j ∧ ∃ t : Str, d = .str t ∧ t.length ≤ 2000000 := by
  unfold f_18 Ti
  rw [wp_def]
  unfold m_18
  simp
  refine ⟨by omega, ?_⟩
  refine wp_lcA D.int (fun x => .str (toString x)) (fun x m => by simp [(hx x m).log]) ?_
  have e : xs.map (fun x => D.str (toString x)) = (xs.map fun x => ((toString x : String) : Str)).map D.str := by rw [List.map_map]; rfl
  rw [e]
  have l3 : (((" " : String) : Str)).length = 1 := rfl
  refine wp_join (n := 1921) (fun s hs => ?_) ?_ fun t _ ht => ?_
  · obtain ⟨x, m, rfl⟩ := List.mem_map.mp hs
    exact (hx x m).len
  · rw [List.length_map, l3]; omega
  · rw [List.length_map, l3] at ht
    exact ⟨rfl, t, rfl, by omega⟩
def InS (e : Int × Int) : Prop := (0 ≤ e.1 ∧ e.1 ≤ 4000) ∧ (0 ≤ e.2 ∧ e.2 ≤ 4000) ∧ e.1 ≤ e.2
def stT (e : Int × Int) : Str := if e.1 = e.2 then (toString e.1 : String) else Str.empty ++ (toString e.1 : String) ++ "-" ++ (toString e.2 : String)
theorem stT_len {e : Int × Int} (h : InS e) : (stT e).length ≤ 4000 := by
  have h1 : ((toString e.1 : String) : Str).length ≤ 1921 := Sm.len (by unfold InS at h; unfold Sm; omega)
  have h2 : ((toString e.2 : String) : Str).length ≤ 1921 := Sm.len (by unfold InS at h; unfold Sm; omega)
  have l0 : (Str.empty).length = 0 := rfl
  have l3 : ((("-" : String) : Str)).length = 1 := rfl
  unfold stT
  split
  · omega
  · rw [strLen_append, strLen_append, strLen_append]; omega
theorem c22 {e : Int × Int} (h : InS e) : f_22 [T2 e] j = .ok (.str (stT e)) j := by
  have h1 : ((toString e.1 : String) : Str).length ≤ 1921 := Sm.len (by unfold InS at h; unfold Sm; omega)
  have h2 : ((toString e.2 : String) : Str).length ≤ 1921 := Sm.len (by unfold InS at h; unfold Sm; omega)
  have g1 : e.1.natAbs.log2 < 1920 := Sm.log (by unfold InS at h; unfold Sm; omega)
  have g2 : e.2.natAbs.log2 < 1920 := Sm.log (by unfold InS at h; unfold Sm; omega)
  have l0 : (Str.empty).length = 0 := rfl
  have l3 : ((("-" : String) : Str)).length = 1 := rfl
  apply of_wp
  unfold f_22 T2
  rw [wp_def]
  unfold m_22 stT
  simp [g1, g2]
  have h1' : (Str.ofString e.1.repr).length ≤ 1921 := h1
  have h2' : (Str.ofString e.2.repr).length ≤ 1921 := h2
  split
  · rename_i q
    trace_state
    exact fun z => absurd q z
  · rename_i q
    exact ⟨by omega, by omega, by omega, fun z => absurd z q⟩
theorem c29 {fs : List (Int × Int)} (h : ∀ e ∈ fs, InS e) (hl : fs.length = 3) : f_29 [.tup (fs.map T2)] j = .ok .non j := by
  match fs, hl with
  | [a, b, c], _ =>
    have ha := h a (by simp)
    have hb := h b (by simp)
    have hc := h c (by simp)
    apply of_wp
    unfold f_29
    rw [wp_def]
    unfold m_29 InS at *
    have n0 : numD 0 [T2 a, T2 b, T2 c] = [.tup [.int 0, T2 a], .tup [.int 1, T2 b], .tup [.int 2, T2 c]] := rfl
    simp [n0, isTy, mForL, c20, ha, hb, hc]
theorem c31 {p : Int} {ps : List Int} {fs : List (Int × Int)} (hp : 1 ≤ p ∧ p ≤ 60) (hs : ∀ x ∈ ps, Sm x) (h3 : ps.length = 3) (hf : ∀ e ∈ fs, InS e) (hl : fs.length = 3) :
    wp (f_31_0 [.int p, Ti ps, .tup (fs.map T2)] j) fun d j' => j' = j ∧ ∃ t, d = VotesD p ps fs t := by
  have hn : ∀ x ∈ ps, 0 ≤ x := fun x m => (hs x m).1
  have g15 : f_15 [Ti ps, .int 3] j = .ok (.bl true) j := by
    have := c15 (j := j) (xs := ps) (n := 3) (by omega)
    rw [show ((3 : Nat) : Int) = 3 from rfl] at this
    rw [this, decide_eq_true ⟨h3, hn⟩]
  have gp : ((toString p : String) : Str).length ≤ 1921 := Sm.len (by unfold Sm; omega)
  have gl : p.natAbs.log2 < 1920 := Sm.log (by unfold Sm; omega)
  unfold f_31_0
  rw [wp_init]
  unfold m_31_0
  have gp' : (Str.ofString p.repr).length ≤ 1921 := gp
  have l1 : (Str.ofString "votes ").length = 6 := rfl
  have l2 : (Str.ofString " ").length = 1 := rfl
  simp [c25 hp, g15, c29 hf hl, show p ≠ 0 by omega, show 1 ≤ p by omega, show p ≤ 1000 by omega, l1, l2, gl]
  refine ⟨by omega, ?_⟩
  refine wp_lcA T2 (fun e => .str (stT e)) (fun e m => by simp [c22 (hf e m)]) ?_
  rw [show fs.map (fun e => D.str (stT e)) = (fs.map stT).map D.str by rw [List.map_map]; rfl]
  refine wp_join (n := 4000) (fun s hs => ?_) ?_ fun t _ ht => ?_
  · obtain ⟨e, m, rfl⟩ := List.mem_map.mp hs
    exact stT_len (hf e m)
  · rw [List.length_map, l2]; omega
  · rw [List.length_map, l2, hl] at ht
    refine ⟨by omega, by omega, wp_mono (c18 hs (by omega)) ?_⟩
    rintro d j' ⟨rfl, t', rfl, ht'⟩
    simp
    refine ⟨by omega, by omega, by omega, by omega, by omega, ?_⟩
    exact ⟨_, rfl⟩
end Mir
set_option Elab.async false
set_option linter.all false
set_option maxRecDepth 100000
set_option maxHeartbeats 4000000
/-! K73c: all profiles. -/
namespace Mir
open PySem L2 PySem.Spec PyProof.Rows
open Q70 (upto mem_upto)
open P73
variable {j : List Int}
/-- numbers within their stretches -/
def wB (ns : List Int) (fs : List (Int × Int)) : Bool := (ns.zip fs).all fun q => decide (q.2.1 ≤ q.1 ∧ q.1 ≤ q.2.2)
theorem c21 {v : Int} {e : Int × Int} : f_21 [.int v, T2 e] j = .ok (.bl (decide (e.1 ≤ v ∧ v ≤ e.2))) j := by
  apply of_wp
  unfold f_21 T2
  rw [wp_def]
  unfold m_21
  simp [c11]
  by_cases h : e.1 ≤ v <;> simp [h]
theorem zip_ints (ns : List Int) (fs : List (Int × Int)) : zipD (ns.map D.int) (fs.map T2) = (ns.zip fs).map fun q => .tup [.int q.1, T2 q.2] := zipD_map _ _ _ _
theorem c36 {ns : List Int} {fs : List (Int × Int)} (hl : ns.length ≤ 1000) : f_36 [Ti ns, .tup (fs.map T2)] j = .ok (.bl (wB ns fs)) j := by
  apply of_wp
  unfold f_36 Ti
  rw [wp_def]
  unfold m_36
  simp [zip_ints]
  refine ⟨by omega, ?_⟩
  refine wp_lcA _ (fun q => .bl (decide (q.2.1 ≤ q.1 ∧ q.1 ≤ q.2.2))) (fun q _ => by simp [c21]) ?_
  rw [map_bl, wp_allB]
  unfold wB
  simp [List.all_map]
theorem c50 {ns : List Int} {fs : List (Int × Int)} (hl : ns.length ≤ 1000) : f_50 [Ti ns, .tup (fs.map T2)] j = .ok (.bl (wB ns fs)) j := by
  apply of_wp
  unfold f_50 Ti
  rw [wp_def]
  unfold m_50
  simp [zip_ints]
  refine ⟨by omega, ?_⟩
  refine wp_lc _ (fun q => !decide (q.2.1 ≤ q.1 ∧ q.1 ≤ q.2.2)) (fun q => .int q.1) (fun q _ => ?_) ?_
  · simp [T2]
    by_cases h : q.2.1 ≤ q.1 <;> simp [h] <;> omega
  · rw [wp_eqNil (layN_map fun _ _ => layN_int)]
    refine ⟨?_, rfl⟩
    unfold wB
    rw [List.isEmpty_map]
    generalize ns.zip fs = l
    congr 1
    induction l with
    | nil => rfl
    | cons q l ih =>
      rw [List.filter_cons, List.all_cons, ← ih]
      by_cases h : q.2.1 ≤ q.1 ∧ q.1 ≤ q.2.2 <;> simp [h]
def Six (w : List Int) : Prop := ∃ a b c d e f : Int, w = [a, b, c, d, e, f]
theorem c46 {w : List Int} (h : Six w) : f_46 [Ti w] j = .ok (.lst [Ti (cnt w).1, Ti (cnt w).2]) j := by
  obtain ⟨a, b, c, d, e, f, rfl⟩ := h
  rfl
theorem c33 {w : List Int} (h : Six w) : f_33 [Ti w] j = .ok (Ti (cnt w).1) j := by
  obtain ⟨a, b, c, d, e, f, rfl⟩ := h
  rfl
theorem c34 {w : List Int} (h : Six w) : f_34 [Ti w] j = .ok (Ti (cnt w).2) j := by
  obtain ⟨a, b, c, d, e, f, rfl⟩ := h
  rfl
variable {p p0 p1 p2 : Int} {fs : List (Int × Int)} {t : Str}
theorem pp {ps : List Int} : f_31_2 [VotesD p ps fs t] j = .ok (.int p) j := rfl
theorem ppairs {ps : List Int} : f_31_3 [VotesD p ps fs t] j = .ok (Ti ps) j := rfl
theorem pfirsts {ps : List Int} : f_31_4 [VotesD p ps fs t] j = .ok (.tup (fs.map T2)) j := rfl
theorem prop_p {ps : List Int} : dProp [(6, f_31_2)] (VotesD p ps fs t) j = .ok (.int p) j := rfl
theorem prop_pairs {ps : List Int} : dProp [(6, f_31_3)] (VotesD p ps fs t) j = .ok (Ti ps) j := rfl
theorem prop_firsts {ps : List Int} : dProp [(6, f_31_4)] (VotesD p ps fs t) j = .ok (.tup (fs.map T2)) j := rfl
theorem c30 {ps : List Int} : f_30 [VotesD p ps fs t] j = .ok .non j := rfl
theorem c38 {a b : Int} : f_38 [VotesD p [p0, p1, p2] fs t, .int a, .int b] j = .ok (Ti (withAB p p0 p1 p2 a b)) j := by
  apply of_wp
  unfold f_38
  rw [wp_def]
  unfold m_38
  simp [prop_p, prop_pairs, Ti, withAB]
theorem minT {x : Int} {xs : List Int} {Q : D → List Int → Prop} : wp (dMin [.tup ((x :: xs).map .int)] j) Q = Q (.int (minI x xs)) j := by
  show wp (onInts ((x :: xs).map D.int) (bestI minI) j) Q = _
  unfold onInts
  rw [toInts_map]; rfl
theorem minI_ge {y : Int} : ∀ {xs : List Int} {x : Int}, y ≤ minI x xs ↔ ∀ z ∈ x :: xs, y ≤ z
  | [], x => by simp [minI]
  | z :: xs, x => by
    unfold minI
    rw [minI_ge]
    simp only [List.mem_cons, forall_eq_or_imp]
    split <;> constructor <;> intro h
    · exact ⟨by omega, h.1, h.2⟩
    · exact ⟨h.2.1, h.2.2⟩
    · exact ⟨h.1, by omega, h.2⟩
    · exact ⟨h.1, h.2.2⟩
end Mir
set_option Elab.async false
set_option linter.all false
set_option maxRecDepth 100000
set_option maxHeartbeats 4000000
/-! K73d: all profiles. -/
namespace Mir
open PySem L2 PySem.Spec PyProof.Rows
open Q70 (upto mem_upto)
open P73
variable {j : List Int}
variable {p p0 p1 p2 : Int} {fs : List (Int × Int)} {t : Str}
/-- firsts fit -/
def fits (fs : List (Int × Int)) (w : List Int) : Bool := wB (cnt w).2 fs
theorem len_flat_le {α β : Type} (f : α → List β) (n : Nat) : ∀ l : List α, (∀ x ∈ l, (f x).length ≤ n) → (l.flatMap f).length ≤ l.length * n
  | [], _ => by simp
  | x :: l, h => by
    have h1 := h x List.mem_cons_self
    have h2 := len_flat_le f n l fun y hy => h y (List.mem_cons_of_mem _ hy)
    rw [List.flatMap_cons, List.length_append, List.length_cons, Nat.add_mul]
    omega
theorem upto_len {a b : Int} : (upto a b).length = (b + 1 - a).toNat := by
  unfold upto
  rw [List.length_map, List.length_range]
theorem allP_len {g : List Int → Bool} (hp : p ≤ 60) : (allP p p0 p1 p2 g).length ≤ 3721 := by
  unfold allP
  refine Nat.le_trans (len_flat_le _ 61 _ fun a ha => ?_) ?_
  · refine Nat.le_trans (List.length_filter_le _ _) ?_
    have := mem_upto.mp ha
    rw [List.length_map, upto_len]
    omega
  · rw [upto_len]
    have : (min p p0 + 1 - 0).toNat ≤ 61 := by omega
    omega
theorem range_from0 (b : Int) : rangeD 0 (b + 1).toNat = (upto 0 b).map D.int := by rw [rangeD_0, show b + 1 - 1 = b by omega]
theorem six_with {a b : Int} : Six (withAB p p0 p1 p2 a b) := ⟨_, _, _, _, _, _, rfl⟩
theorem filter_step {α : Type} (P : α → Bool) (acc : List α) (x : α) (r : List α) : acc ++ (x :: r).filter P = (if P x = true then acc ++ [x] else acc) ++ r.filter P := by
  rw [List.filter_cons]
  split
  · simp
  · rfl
theorem min_six {w : List Int} (h : Six w) : ∃ m : Int, dMin [Ti w] j = .ok (.int m) j ∧ (0 ≤ m ↔ ∀ x ∈ w, 0 ≤ x) := by
  obtain ⟨a, b, c, d, e, f, rfl⟩ := h
  exact ⟨minI a [b, c, d, e, f], rfl, minI_ge⟩
theorem cnt_len {w : List Int} : (P73.cnt w).2.length ≤ 1000 := by
  unfold P73.cnt
  split <;> simp
theorem c39 (hp : 0 ≤ p ∧ p ≤ 60) (hp0 : 0 ≤ p0) : f_39 [VotesD p [p0, p1, p2] fs t] j = .ok (.lst ((allP p p0 p1 p2 (fits fs)).map Ti)) j := by
  apply of_wp
  unfold f_39
  rw [wp_def]
  unfold m_39
  simp [prop_p, prop_pairs, prop_firsts, Ti]
  refine ⟨by omega, ?_⟩
  rw [range_from0]
  have hlen := allP_len (p := p) (p0 := p0) (p1 := p1) (p2 := p2) (g := fits fs) hp.2
  obtain ⟨I, hI⟩ : ∃ I : List Int → Mir.Env → List Int → Prop, ∀ r ρ j', I r ρ j' ↔ (j' = j ∧ ∃ acc s3 s4 s5, ρ = [.val (VotesD p [p0, p1, p2] fs t), .val (.int p0), .own (acc.map Ti), s3, s4, s5] ∧ (∀ x ∈ r, 0 ≤ x ∧ x ≤ 60) ∧
    acc ++ r.flatMap (fun a => ((upto 0 (min p p0 - a)).map (withAB p p0 p1 p2 a)).filter fun w => decide (∀ x ∈ w, 0 ≤ x) && fits fs w) = allP p p0 p1 p2 (fits fs)) := ⟨_, fun _ _ _ => Iff.rfl⟩
  refine wp_forL D.int I ((hI _ _ _).mpr ⟨rfl, [], _, _, _, rfl, fun x hx => by have := mem_upto.mp hx; omega, rfl⟩) (fun a r ρ j' h => ?_) fun ρ j' h => ?_
  · obtain ⟨rfl, acc, s3, s4, s5, rfl, hr, e⟩ := (hI _ _ _).mp h
    have h0 := hr a List.mem_cons_self
    simp [prop_p, prop_pairs, prop_firsts]
    refine ⟨by omega, ?_⟩
    rw [range_from0]
    rw [List.flatMap_cons, ← List.append_assoc] at e
    obtain ⟨I', hI'⟩ : ∃ I : List Int → Mir.Env → List Int → Prop, ∀ r' ρ j'', I r' ρ j'' ↔ (j'' = j' ∧ ∃ acc' s4 s5, ρ = [.val (VotesD p [p0, p1, p2] fs t), .val (.int p0), .own (acc'.map Ti), .val (.int a), s4, s5] ∧
      acc' ++ (r'.map (withAB p p0 p1 p2 a)).filter (fun w => decide (∀ x ∈ w, 0 ≤ x) && fits fs w) = acc ++ ((upto 0 (min p p0 - a)).map (withAB p p0 p1 p2 a)).filter fun w => decide (∀ x ∈ w, 0 ≤ x) && fits fs w) := ⟨_, fun _ _ _ => Iff.rfl⟩
    refine wp_forL D.int I' ((hI' _ _ _).mpr ⟨rfl, acc, _, _, rfl, rfl⟩) (fun b r' ρ j'' h' => ?_) fun ρ j'' h' => ?_
    · obtain ⟨rfl, acc', s4, s5, rfl, e'⟩ := (hI' _ _ _).mp h'
      obtain ⟨m, hm, hm'⟩ := min_six (j := j'') (six_with (p := p) (p0 := p0) (p1 := p1) (p2 := p2) (a := a) (b := b))
      simp [c38, hm, c34 six_with, prop_firsts, c36 cnt_len]
      have la : acc'.length ≤ 3721 := by
        have := congrArg List.length e'
        have h2 := congrArg List.length e
        simp only [List.length_append] at this h2
        omega
      rw [List.map_cons, filter_step] at e'
      by_cases q : 0 ≤ m
      · rw [if_pos q]
        by_cases q2 : wB (cnt (withAB p p0 p1 p2 a b)).2 fs = true
        · rw [if_pos q2]
          refine ⟨by omega, (hI' _ _ _).mpr ⟨rfl, acc' ++ [withAB p p0 p1 p2 a b], _, _, by rw [List.map_append]; rfl, ?_⟩⟩
          rw [← e', if_pos (by rw [Bool.and_eq_true, decide_eq_true_iff]; exact ⟨hm'.mp q, q2⟩)]
        · rw [if_neg q2]
          refine (hI' _ _ _).mpr ⟨rfl, acc', _, _, rfl, ?_⟩
          rw [← e', if_neg (by rw [Bool.and_eq_true]; exact fun z => q2 z.2)]
      · rw [if_neg q]
        refine (hI' _ _ _).mpr ⟨rfl, acc', _, _, rfl, ?_⟩
        rw [← e', if_neg (by rw [Bool.and_eq_true, decide_eq_true_iff]; exact fun z => q (hm'.mpr z.1))]
    · obtain ⟨rfl, acc', s4, s5, rfl, e'⟩ := (hI' _ _ _).mp h'
      rw [List.map_nil, List.filter_nil, List.append_nil] at e'
      subst e'
      exact (hI _ _ _).mpr ⟨rfl, _, _, _, _, rfl, fun x hx => hr x (List.mem_cons_of_mem _ hx), e⟩
  · obtain ⟨rfl, acc, s3, s4, s5, rfl, _, e⟩ := (hI _ _ _).mp h
    rw [List.flatMap_nil, List.append_nil] at e
    subst e
    simp
end Mir
set_option Elab.async false
set_option linter.all false
set_option maxRecDepth 100000
set_option maxHeartbeats 4000000
/-! K73e: what is told, what is judged. -/
namespace Mir
open PySem L2 PySem.Spec PyProof.Rows
open Q70 (upto mem_upto)
open P73 (Pr allP mem_allP withAB trd)
variable {j : List Int}
variable {p p0 p1 p2 : Int} {fs : List (Int × Int)} {t : Str}
theorem lay_Tis {ws : List (List Int)} : ∀ d ∈ ws.map Ti, LayN 60 d := layN_map fun _ _ => lay_Ti (n := 59)
def headD (ws : List (List Int)) : D := match ws with
  | [] => .non
  | w :: _ => Ti w
theorem c40 (hp : 0 ≤ p ∧ p ≤ 60) (hp0 : 0 ≤ p0) : f_40 [VotesD p [p0, p1, p2] fs t] j = .ok (headD (allP p p0 p1 p2 (fits fs))) j := by
  apply of_wp
  unfold f_40
  rw [wp_def]
  unfold m_40
  simp [c30, c39 hp hp0, wp_neNil lay_Tis]
  cases allP p p0 p1 p2 (fits fs) <;> simp [headD]
theorem c41 (hp : 0 ≤ p ∧ p ≤ 60) (hp0 : 0 ≤ p0) : f_41 [VotesD p [p0, p1, p2] fs t] j = .ok (.int (allP p p0 p1 p2 (fits fs)).length) j := by
  apply of_wp
  unfold f_41
  rw [wp_def]
  unfold m_41
  simp [c30, c39 hp hp0]
theorem sumI_six {a b c d e f : Int} : ([a, b, c, d, e, f] : List Int).sum = a + b + c + d + e + f := by simp; omega
/-- by own counting -/
def isOne (p p0 p1 p2 : Int) (fs : List (Int × Int)) (d : D) : Bool := match d with
  | .tup [.int a, .int b, .int c, .int d, .int e, .int f] => decide ((∀ x ∈ [a, b, c, d, e, f], 0 ≤ x) ∧ a + b + c + d + e + f = p ∧ (P73.cnt [a, b, c, d, e, f]).1 = [p0, p1, p2]) && fits fs [a, b, c, d, e, f]
  | _ => false
/-- what is passed as a profile -/
inductive Odd : D → Prop
  | six {w : List Int} (h : Six w) : Odd (Ti w)
  | len {ds : List D} (h : ds.length ≠ 6) : Odd (.tup ds)
  | bad {ds : List D} (h : ds.length = 6) (h2 : ∃ d ∈ ds, ∀ i, d ≠ .int i) (h3 : ∀ d ∈ ds, LayN 50 d) (h4 : ∀ d ∈ ds, ∃ b, tyOf d = some b) : Odd (.tup ds)
  | els {d : D} {b : Ty} (h : tyOf d = some b) (h2 : b ≠ .tup) : Odd d
/-- a plan -/
def PlanD (p p0 p1 p2 : Int) (fs : List (Int × Int)) : D := .lst [.int p, Ti [p0, p1, p2], .tup (fs.map T2)]
theorem c13D {d : D} {b : Ty} (h : tyOf d = some b) (hi : ∀ i, d ≠ .int i) : f_13 [d] j = .ok (.bl false) j := by
  cases d <;> first | rfl | (exact absurd rfl (hi _)) | cases h
theorem c37six {w : List Int} (h : Six w) : f_37 [VotesD p [p0, p1, p2] fs t, Ti w] j = .ok (.bl (isOne p p0 p1 p2 fs (Ti w))) j := by
  obtain ⟨a, b, c, d, e, f, rfl⟩ := h
  have h6 : Six [a, b, c, d, e, f] := ⟨_, _, _, _, _, _, rfl⟩
  apply of_wp
  unfold f_37
  rw [wp_def]
  unfold m_37
  have g15 : f_15 [Ti [a, b, c, d, e, f], .int 6] j = .ok (.bl (decide (∀ x ∈ [a, b, c, d, e, f], 0 ≤ x))) j := by
    have := c15 (j := j) (xs := [a, b, c, d, e, f]) (n := 6) (by simp)
    rw [show ((6 : Nat) : Int) = 6 from rfl] at this
    rw [this]
    simp
  have gs : dSum [Ti [a, b, c, d, e, f]] j = .ok (.int (a + b + c + d + e + f)) j := by
    apply of_wp
    show wp (dSum [.tup (List.map D.int [a, b, c, d, e, f])] j) _
    rw [wp_sumT, sumI_six]
    exact ⟨rfl, rfl⟩
  simp [c30, g15, gs, prop_p, prop_pairs, prop_firsts, c33 h6, c34 h6, wp_eqTi, c36 cnt_len]
  unfold isOne Ti
  by_cases q : ∀ x ∈ [a, b, c, d, e, f], 0 ≤ x
  · have q' : 0 ≤ a ∧ 0 ≤ b ∧ 0 ≤ c ∧ 0 ≤ d ∧ 0 ≤ e ∧ 0 ≤ f := by simpa using q
    by_cases q2 : a + b + c + d + e + f = p
    · by_cases q3 : (P73.cnt [a, b, c, d, e, f]).1 = [p0, p1, p2]
      · simp [q', q2, q3, fits]
      · simp [q', q2, q3, fits]
    · simp [q', q2, fits]
  · have q' : ¬ (0 ≤ a ∧ 0 ≤ b ∧ 0 ≤ c ∧ 0 ≤ d ∧ 0 ≤ e ∧ 0 ≤ f) := by simpa using q
    simp [q']
/-- a natural number -/
def natD (d : D) : Bool := match d with
  | .int i => decide (0 ≤ i)
  | _ => false
theorem c13A {d : D} {b : Ty} (h : tyOf d = some b) : f_13 [d] j = .ok (.bl (natD d)) j := by
  cases d <;> first | exact c13 | rfl | cases h
theorem isOne_tup {ds : List D} (h : isOne p p0 p1 p2 fs (.tup ds) = true) : ds.length = 6 ∧ ∀ d ∈ ds, ∃ i, d = .int i := by
  unfold isOne at h
  split at h
  · rename_i e
    cases e
    simp
  · cases h
theorem c37odd {d : D} (h : Odd d) : f_37 [VotesD p [p0, p1, p2] fs t, d] j = .ok (.bl (isOne p p0 p1 p2 fs d)) j := by
  cases h with
  | six h => exact c37six h
  | len h =>
    rename_i ds
    have e : isOne p p0 p1 p2 fs (.tup ds) = false := by
      cases q : isOne p p0 p1 p2 fs (.tup ds) with
      | false => rfl
      | true => exact absurd (isOne_tup q).1 h
    have g15 : f_15 [.tup ds, .int 6] j = .ok (.bl false) j := by
      have := c14 (j := j) (ds := ds) (n := 6)
      rw [show ((6 : Nat) : Int) = 6 from rfl] at this
      apply of_wp
      unfold f_15
      rw [wp_def]
      unfold m_15
      simp [this, h]
    apply of_wp
    unfold f_37
    rw [wp_def]
    unfold m_37
    simp [c30, g15, e]
  | bad h h2 h3 h4 =>
    rename_i ds
    have e : isOne p p0 p1 p2 fs (.tup ds) = false := by
      cases q : isOne p p0 p1 p2 fs (.tup ds) with
      | false => rfl
      | true =>
        obtain ⟨d, m, hd⟩ := h2
        obtain ⟨i, e⟩ := (isOne_tup q).2 d m
        exact absurd e (hd i)
    have g15 : f_15 [.tup ds, .int 6] j = .ok (.bl false) j := by
      have := c14 (j := j) (ds := ds) (n := 6)
      rw [show ((6 : Nat) : Int) = 6 from rfl] at this
      apply of_wp
      unfold f_15
      rw [wp_def]
      unfold m_15
      simp [this, h]
      rw [show ds = ds.map id from (List.map_id ds).symm]
      refine wp_lcA id (fun d => .bl (natD d)) (fun d m => by obtain ⟨b, hb⟩ := h4 d m; simp [c13A hb]) ?_
      rw [map_bl, wp_allB]
      refine ⟨?_, rfl⟩
      congr 1
      obtain ⟨d, m, hd⟩ := h2
      rw [List.all_eq_false]
      refine ⟨natD d, List.mem_map_of_mem m, ?_⟩
      cases d <;> first | (exact absurd rfl (hd _)) | (intro z; cases z)
    apply of_wp
    unfold f_37
    rw [wp_def]
    unfold m_37
    simp [c30, g15, e]
  | els h h2 =>
    have e : isOne p p0 p1 p2 fs d = false := by
      cases d <;> first | rfl | (cases h; exact absurd rfl h2)
    have g14 : f_14 [d, .int 6] j = .ok (.bl false) j := by
      cases d <;> first | rfl | (cases h; exact absurd rfl h2) | cases h
    have g15 : f_15 [d, .int 6] j = .ok (.bl false) j := by
      apply of_wp
      unfold f_15
      rw [wp_def]
      unfold m_15
      simp [g14]
    apply of_wp
    unfold f_37
    rw [wp_def]
    unfold m_37
    simp [c30, g15, e]
/-- what is no natural number -/
def badD (d : D) : Bool := !natD d
theorem bad_lc {s0 s1 s2 s3 s4 : Sl} {ds : List D} {A : List D → List Int → Prop} (h4 : ∀ d ∈ ds, ∃ b, tyOf d = some b) (hA : A (ds.filter badD) j) :
    wp (mLcL (gN 4) (mOr (mNot (mTru (mUn (dIsB .int known) (mVar .look 4)))) (mOr (mTru (mUn (dIsB .bool known) (mVar .look 4))) (mAsB (mBin dLt (mVar .look 4) (mC (.int 0)))))) (mVar .keep 4) ds [s0, s1, s2, s3, s4] j) A := by
  rw [show ds = ds.map id from (List.map_id ds).symm]
  refine wp_lc id badD id (fun d m => ?_) (by rw [List.map_id]; exact hA)
  obtain ⟨b, hb⟩ := h4 d m
  cases d <;> first | (cases hb; done) | (simp [isTy, badD, natD]; done) | skip
  rename_i i
  simp [isTy, badD, natD]
  by_cases z : i < 0 <;> simp [z] <;> omega
theorem plan0 : dIx (PlanD p p0 p1 p2 fs) (.int 0) j = .ok (.int p) j := rfl
theorem plan1 : dIx (PlanD p p0 p1 p2 fs) (.int 1) j = .ok (Ti [p0, p1, p2]) j := rfl
theorem plan2 : dIx (PlanD p p0 p1 p2 fs) (.int 2) j = .ok (.tup (fs.map T2)) j := rfl
theorem c53odd {d : D} (h : Odd d) : f_53 [PlanD p p0 p1 p2 fs, d] j = .ok (.bl (isOne p p0 p1 p2 fs d)) j := by
  cases h with
  | six h =>
    obtain ⟨a, b, c, d, e, f, rfl⟩ := h
    have h6 : Six [a, b, c, d, e, f] := ⟨_, _, _, _, _, _, rfl⟩
    have c46' : f_46 [.tup [.int a, .int b, .int c, .int d, .int e, .int f]] j = .ok (.lst [Ti (P73.cnt [a, b, c, d, e, f]).1, Ti (P73.cnt [a, b, c, d, e, f]).2]) j := c46 h6
    have gs : dSum [.tup [.int a, .int b, .int c, .int d, .int e, .int f]] j = .ok (.int (a + b + c + d + e + f)) j := by
      apply of_wp
      show wp (dSum [.tup (List.map D.int [a, b, c, d, e, f])] j) _
      rw [wp_sumT, sumI_six]
      exact ⟨rfl, rfl⟩
    apply of_wp
    unfold f_53
    rw [wp_def]
    unfold m_53 Ti
    simp [isTy]
    refine bad_lc (fun d hd => ?_) ?_
    · simp at hd
      rcases hd with rfl | rfl | rfl | rfl | rfl | rfl <;> exact ⟨_, rfl⟩
    · rw [wp_neNil (fun d hd => by
        have hd := (List.mem_filter.mp hd).1
        simp at hd
        rcases hd with rfl | rfl | rfl | rfl | rfl | rfl <;> simp)]
      have eb : ([D.int a, .int b, .int c, .int d, .int e, .int f].filter badD).isEmpty = decide (∀ x ∈ [a, b, c, d, e, f], 0 ≤ x) := by
        have : ([D.int a, .int b, .int c, .int d, .int e, .int f].filter badD).isEmpty = true ↔ ∀ x ∈ [a, b, c, d, e, f], 0 ≤ x := by
          rw [List.isEmpty_iff, List.filter_eq_nil_iff]
          simp [badD, natD]
        by_cases q : ∀ x ∈ [a, b, c, d, e, f], 0 ≤ x
        · rw [decide_eq_true q, this.mpr q]
        · rw [decide_eq_false q]
          cases z : ([D.int a, .int b, .int c, .int d, .int e, .int f].filter badD).isEmpty with
          | false => rfl
          | true => exact absurd (this.mp z) q
      rw [eb]
      simp [c46', gs, plan0, plan1, plan2, isOne, wp_eqTi, c50 cnt_len]
      by_cases q : ∀ x ∈ [a, b, c, d, e, f], 0 ≤ x
      · have q' : 0 ≤ a ∧ 0 ≤ b ∧ 0 ≤ c ∧ 0 ≤ d ∧ 0 ≤ e ∧ 0 ≤ f := by simpa using q
        rw [if_neg (by omega)]
        by_cases q2 : a + b + c + d + e + f = p
        · by_cases q3 : (P73.cnt [a, b, c, d, e, f]).1 = [p0, p1, p2]
          · simp [q', q2, q3, fits]
          · simp [q', q2, q3, fits]
        · simp [q', q2, fits]
      · have q' : ¬ (0 ≤ a ∧ 0 ≤ b ∧ 0 ≤ c ∧ 0 ≤ d ∧ 0 ≤ e ∧ 0 ≤ f) := by simpa using q
        rw [if_pos (by omega)]
        intro h1 h2 h3 h4 h5 h6
        exact absurd ⟨h1, h2, h3, h4, h5, h6⟩ q'
  | len h =>
    rename_i ds
    have e : isOne p p0 p1 p2 fs (.tup ds) = false := by
      cases q : isOne p p0 p1 p2 fs (.tup ds) with
      | false => rfl
      | true => exact absurd (isOne_tup q).1 h
    apply of_wp
    unfold f_53
    rw [wp_def]
    unfold m_53
    simp [isTy, e, show ((ds.length : Nat) : Int) ≠ 6 by omega]
  | bad h h2 h3 h4 =>
    rename_i ds
    have e : isOne p p0 p1 p2 fs (.tup ds) = false := by
      cases q : isOne p p0 p1 p2 fs (.tup ds) with
      | false => rfl
      | true =>
        obtain ⟨d, m, hd⟩ := h2
        obtain ⟨i, e⟩ := (isOne_tup q).2 d m
        exact absurd e (hd i)
    have eb : (ds.filter badD).isEmpty = false := by
      obtain ⟨d, m, hd⟩ := h2
      cases z : (ds.filter badD).isEmpty with
      | false => rfl
      | true =>
        rw [List.isEmpty_iff, List.filter_eq_nil_iff] at z
        refine absurd ?_ (z d m)
        cases d <;> first | rfl | (exact absurd rfl (hd _))
    apply of_wp
    unfold f_53
    rw [wp_def]
    unfold m_53
    simp [isTy, e, h]
    refine bad_lc h4 ?_
    rw [wp_neNil (fun d hd => (h3 d (List.mem_filter.mp hd).1).mono (by omega)), eb]
    simp
  | els h h2 =>
    have e : isOne p p0 p1 p2 fs d = false := by
      cases d <;> first | rfl | (cases h; exact absurd rfl h2)
    apply of_wp
    unfold f_53
    rw [wp_def]
    unfold m_53
    cases d <;> first | (cases h; exact absurd rfl h2) | (cases h; done) | (simp [isTy, e])
end Mir
set_option Elab.async false
set_option linter.all false
set_option maxRecDepth 100000
set_option maxHeartbeats 4000000
/-! K73f: by trying. -/
namespace Mir
open PySem L2 PySem.Spec PyProof.Rows
open Q70 (upto mem_upto tries ext byF fin)
open P73 (Pr allP mem_allP withAB trd)
variable {j : List Int}
variable {p p0 p1 p2 : Int} {fs : List (Int × Int)} {t : Str}
theorem Qsum (xs : List Int) : Q70.sumI xs = xs.sum := by
  induction xs with
  | nil => rfl
  | cons x xs ih => rw [List.sum_cons, ← ih]; rfl
theorem byF_len (R : Nat) : ∀ (n : Nat) (r : Int), r ≤ R → (byF n r).length ≤ (R + 1) ^ n
  | 0, r, _ => Nat.le_refl 1
  | n + 1, r, h => by
    show ((upto 0 r).flatMap fun x => (byF n (r - x)).map (x :: ·)).length ≤ _
    refine Nat.le_trans (len_flat_le _ ((R + 1) ^ n) _ fun x hx => ?_) ?_
    · rw [List.length_map]
      exact byF_len R n _ (by have := (Q70.mem_upto.mp hx).1; omega)
    · rw [Nat.pow_succ, Nat.mul_comm]
      refine Nat.mul_le_mul_left _ ?_
      rw [upto_len]
      omega
theorem tries_len {n : Nat} (h : 0 ≤ p ∧ p ≤ 6) (hn : n ≤ 5) : (tries p n).length ≤ 16807 := by
  rw [Q70.tries_eq]
  exact Nat.le_trans (byF_len 6 n p (by omega)) (Nat.le_trans (Nat.pow_le_pow_right (by omega) hn) (by decide))
theorem tries_mem {n : Nat} {w : List Int} (h : w ∈ tries p n) (hp : 0 ≤ p) : w.length = n ∧ 0 ≤ w.sum ∧ w.sum ≤ p := by
  rw [Q70.tries_eq] at h
  obtain ⟨h1, h2, h3⟩ := P73.mem_byF.mp h
  refine ⟨h1, ?_, ?_⟩
  · have key : ∀ l : List Int, (∀ x ∈ l, 0 ≤ x) → 0 ≤ l.sum := fun l => by
      induction l with
      | nil => intro _; exact Int.le_refl _
      | cons y l ih => intro h; have := h y List.mem_cons_self; have := ih fun z hz => h z (List.mem_cons_of_mem _ hz); rw [List.sum_cons]; omega
    exact key w h2
  · rw [Qsum] at h3
    rcases h3 with rfl | h3
    · rw [List.length_eq_zero_iff.mp h1]; exact hp
    · exact h3
theorem addTi {xs ys : List Int} {Q : D → List Int → Prop} (h : xs.length + ys.length ≤ 1000) : wp (dAdd (Ti xs) (Ti ys) j) Q = Q (Ti (xs ++ ys)) j := by
  unfold Ti
  rw [wp_addT, List.length_map, List.length_map, ← List.map_append]
  exact propext ⟨fun z => z.2, fun z => ⟨by omega, z⟩⟩
theorem sumTi {xs : List Int} : dSum [Ti xs] j = .ok (.int xs.sum) j := by
  apply of_wp
  unfold Ti
  rw [wp_sumT]
  exact ⟨rfl, rfl⟩
theorem Ti1 (x : Int) : D.tup [.int x] = Ti [x] := rfl
theorem fin_six {w : List Int} (h : w.length = 5) : Six (w ++ [p - w.sum]) := by
  obtain ⟨a, b, c, d, e, rfl⟩ := P73.five h
  exact ⟨_, _, _, _, _, _, rfl⟩
theorem c51 (hp : 0 ≤ p ∧ p ≤ 6) : f_51 [PlanD p p0 p1 p2 fs] j = .ok (.lst ((trd p p0 p1 p2 (fits fs)).map Ti)) j := by
  apply of_wp
  unfold f_51
  rw [wp_def]
  unfold m_51
  simp [plan0, plan1, plan2]
  rw [show rangeD 0 5 = (List.range 5).map (fun k => D.int (0 + (k : Nat))) from rfl]
  obtain ⟨I, hI⟩ : ∃ I : List Nat → Mir.Env → List Int → Prop, ∀ r ρ j', I r ρ j' ↔ (j' = j ∧ ∃ k s2 s3 s4 s5, k + r.length = 5 ∧ ρ = [.val (PlanD p p0 p1 p2 fs), .val (.lst ((tries p k).map Ti)), s2, s3, s4, s5, .no, .no, .no, .no]) := ⟨_, fun _ _ _ => Iff.rfl⟩
  refine wp_forL (xs := List.range 5) _ I ((hI _ _ _).mpr ⟨rfl, 0, _, _, _, _, rfl, rfl⟩) (fun a r ρ j' h => ?_) fun ρ j' h => ?_
  · obtain ⟨rfl, k, s2, s3, s4, s5, hk, rfl⟩ := (hI _ _ _).mp h
    rw [List.length_cons] at hk
    simp [plan0]
    have hlen := tries_len (n := k + 1) hp (by omega)
    have hflat : (tries p k).flatMap (ext p) = tries p (k + 1) := rfl
    obtain ⟨I1, hI1⟩ : ∃ I : List (List Int) → Mir.Env → List Int → Prop, ∀ r ρ j'', I r ρ j'' ↔ (j'' = j' ∧ ∃ acc s4 s5, ρ = [.val (PlanD p p0 p1 p2 fs), .val (.lst ((tries p k).map Ti)), .val (.int a), .own (acc.map Ti), s4, s5, .no, .no, .no, .no] ∧ (∀ w ∈ r, w ∈ tries p k) ∧ acc ++ r.flatMap (ext p) = tries p (k + 1)) := ⟨_, fun _ _ _ => Iff.rfl⟩
    refine wp_forL Ti I1 ((hI1 _ _ _).mpr ⟨rfl, [], _, _, rfl, fun _ h => h, rfl⟩) (fun w r1 ρ j'' h1 => ?_) fun ρ j'' h1 => ?_
    · obtain ⟨rfl, acc, s4, s5, rfl, hr, e⟩ := (hI1 _ _ _).mp h1
      obtain ⟨m1, m2, m3⟩ := tries_mem (hr w List.mem_cons_self) hp.1
      simp [plan0, sumTi]
      refine ⟨by omega, ?_⟩
      rw [range_from0]
      rw [List.flatMap_cons, ← List.append_assoc] at e
      obtain ⟨I2, hI2⟩ : ∃ I : List Int → Mir.Env → List Int → Prop, ∀ r ρ j2, I r ρ j2 ↔ (j2 = j'' ∧ ∃ acc' s5, ρ = [.val (PlanD p p0 p1 p2 fs), .val (.lst ((tries p k).map Ti)), .val (.int a), .own (acc'.map Ti), .val (Ti w), s5, .no, .no, .no, .no] ∧ acc' ++ r.map (fun one => w ++ [one]) = acc ++ ext p w) := ⟨_, fun _ _ _ => Iff.rfl⟩
      refine wp_forL D.int I2 ((hI2 _ _ _).mpr ⟨rfl, acc, _, rfl, by unfold ext; rw [Qsum]⟩) (fun b r2 ρ j2 h2 => ?_) fun ρ j2 h2 => ?_
      · obtain ⟨rfl, acc', s5, rfl, e'⟩ := (hI2 _ _ _).mp h2
        have la : acc'.length ≤ 16807 := by
          have := congrArg List.length e'
          have h2 := congrArg List.length e
          simp only [List.length_append] at this h2
          omega
        simp [Ti1, addTi, m1]
        rw [addTi (by simp; omega)]
        refine ⟨by omega, (hI2 _ _ _).mpr ⟨rfl, acc' ++ [w ++ [b]], _, by rw [List.map_append]; rfl, ?_⟩⟩
        rw [← e', List.map_cons, List.append_assoc]; rfl
      · obtain ⟨rfl, acc', s5, rfl, e'⟩ := (hI2 _ _ _).mp h2
        rw [List.map_nil, List.append_nil] at e'
        subst e'
        exact (hI1 _ _ _).mpr ⟨rfl, _, _, _, rfl, fun x hx => hr x (List.mem_cons_of_mem _ hx), e⟩
    · obtain ⟨rfl, acc, s4, s5, rfl, hr, e⟩ := (hI1 _ _ _).mp h1
      rw [List.flatMap_nil, List.append_nil] at e
      subst e
      simp
      exact (hI _ _ _).mpr ⟨rfl, k + 1, _, _, _, _, by omega, rfl⟩
  · obtain ⟨rfl, k, s2, s3, s4, s5, hk, rfl⟩ := (hI _ _ _).mp h
    obtain rfl : k = 5 := hk
    have hlen := tries_len (n := 5) hp (by omega)
    simp [plan0]
    obtain ⟨I1, hI1⟩ : ∃ I : List (List Int) → Mir.Env → List Int → Prop, ∀ r ρ j'', I r ρ j'' ↔ (j'' = j' ∧ ∃ acc s4 s7 s8 s9, ρ = [.val (PlanD p p0 p1 p2 fs), .val (.lst ((tries p 5).map Ti)), s2, s3, s4, s5, .own (acc.map Ti), s7, s8, s9] ∧ (∀ w ∈ r, w ∈ tries p 5) ∧ acc.length + r.length ≤ 16807 ∧ acc ++ (r.map (fin p)).filter (fun w => decide ((P73.cnt w).1 = [p0, p1, p2]) && fits fs w) = trd p p0 p1 p2 (fits fs)) := ⟨_, fun _ _ _ => Iff.rfl⟩
    refine wp_forL Ti I1 ((hI1 _ _ _).mpr ⟨rfl, [], _, _, _, _, rfl, fun _ h => h, by simpa using hlen, by unfold trd; rw [Q70.tries_eq]; rfl⟩) (fun w r1 ρ j'' h1 => ?_) fun ρ j'' h1 => ?_
    · obtain ⟨rfl, acc, s4, s7, s8, s9, rfl, hr, hl, e⟩ := (hI1 _ _ _).mp h1
      obtain ⟨m1, m2, m3⟩ := tries_mem (hr w List.mem_cons_self) hp.1
      rw [List.length_cons] at hl
      simp [plan0, plan1, plan2, sumTi, Ti1]
      rw [addTi (by simp; omega)]
      simp [c46 (fin_six m1), wp_eqTi, c50 cnt_len, plan1, plan2]
      have hf : fin p w = w ++ [p - w.sum] := by unfold fin; rw [Qsum]
      rw [List.map_cons, filter_step, hf] at e
      by_cases q : (P73.cnt (w ++ [p - w.sum])).1 = [p0, p1, p2]
      · by_cases q2 : fits fs (w ++ [p - w.sum]) = true
        · rw [if_pos q, if_pos (show wB _ _ = true from q2)]
          refine ⟨by omega, (hI1 _ _ _).mpr ⟨rfl, acc ++ [w ++ [p - w.sum]], _, _, _, _, by rw [List.map_append]; rfl, fun x hx => hr x (List.mem_cons_of_mem _ hx), by simp; omega, ?_⟩⟩
          rw [← e, if_pos (by simp [q, q2])]
        · rw [if_pos q, if_neg (show ¬ wB _ _ = true from q2)]
          refine (hI1 _ _ _).mpr ⟨rfl, acc, _, _, _, _, rfl, fun x hx => hr x (List.mem_cons_of_mem _ hx), by omega, ?_⟩
          rw [← e, if_neg (by simp [q2])]
      · rw [if_neg q]
        refine (hI1 _ _ _).mpr ⟨rfl, acc, _, _, _, _, rfl, fun x hx => hr x (List.mem_cons_of_mem _ hx), by omega, ?_⟩
        rw [← e, if_neg (by simp [q])]
    · obtain ⟨rfl, acc, s4, s7, s8, s9, rfl, hr, hl, e⟩ := (hI1 _ _ _).mp h1
      rw [List.map_nil, List.filter_nil, List.append_nil] at e
      subst e
      simp
end Mir
set_option Elab.async false
set_option linter.all false
set_option maxRecDepth 100000
set_option maxHeartbeats 4000000
/-! K73g: by rings. -/
namespace Mir
open PySem L2 PySem.Spec PyProof.Rows
open Q70 (upto mem_upto)
open P73 (Pr allP mem_allP withAB trd ringP ringW more)
variable {j : List Int}
variable {p p0 p1 p2 : Int} {fs : List (Int × Int)} {t : Str}
theorem max3 {a b c : Int} : ∃ m : Int, dMax [Ti [a, b, c]] j = .ok (.int m) j ∧ (p < m ↔ p < a ∨ p < b ∨ p < c) := by
  refine ⟨maxI a [b, c], rfl, ?_⟩
  unfold maxI maxI maxI
  split <;> split <;> omega
def ringE (p t p0 p1 p2 : Int) (fs : List (Int × Int)) (o : List D) (s7 s8 s9 s11 s12 s13 s14 : Sl) : Mir.Env := [.val (PlanD p p0 p1 p2 fs), .val (.int p), .val (Ti [p0, p1, p2]), .val (.tup (fs.map T2)), .val (.int t),
  .own [.int (max 0 (t - p2)), .int (max 0 (p0 - t)), .int (max 0 (p1 - t)), .int (max 0 (t - p0)), .int (max 0 (t - p1)), .int (max 0 (p2 - t))], .val (.int (more p t p0 p1 p2)), s7, s8, s9, .own o, s11, s12, s13, s14, .no]
theorem ring_six {b0 b1 b2 b3 b4 b5 m z x : Int} : Six (ringW b0 b1 b2 b3 b4 b5 m z x) := ⟨_, _, _, _, _, _, rfl⟩
theorem c52 (hp : 0 ≤ p ∧ p ≤ 60) (n0 : 0 ≤ p0) (n1 : 0 ≤ p1) (n2 : 0 ≤ p2) : f_52 [PlanD p p0 p1 p2 fs] j = .ok (.lst ((allP p p0 p1 p2 (fits fs)).map Ti)) j := by
  obtain ⟨m, hm, hm'⟩ := max3 (j := j) (p := p) (a := p0) (b := p1) (c := p2)
  have hs : dSum [Ti [p0, p1, p2]] j = .ok (.int (p0 + p1 + p2)) j := by rw [sumTi]; simp; omega
  apply of_wp
  unfold f_52
  rw [wp_def]
  unfold m_52 PlanD
  simp [hs, hm]
  by_cases q : p < m
  · rw [if_pos q, P73.all_none (by omega)]
    try simp
  · by_cases q2 : 0 ≤ p0 + p1 + p2 - p ∧ p0 + p1 + p2 - p ≤ p
    · rw [if_neg q, if_pos (show p ≤ p0 + p1 + p2 by omega)]
      first | rw [if_neg (show ¬ p < p0 + p1 + p2 - p by omega)] | rw [if_pos (show p0 + p1 + p2 - p ≤ p by omega)] | rw [if_pos (show p0 + p1 + p2 ≤ p + p by omega)]
      have hall := P73.all_ring (p := p) (p0 := p0) (p1 := p1) (p2 := p2) (fits := fits fs) (by omega) (by omega) (by omega) q2.1 q2.2
      have hlen := allP_len (p := p) (p0 := p0) (p1 := p1) (p2 := p2) (g := fits fs) hp.2
      generalize ht : p0 + p1 + p2 - p = t at *
      simp [itemsD, zipD3, mForL, Ti]
      rw [show p - t - max 0 (p0 - t) - max 0 (p1 - t) - max 0 (p2 - t) = more p t p0 p1 p2 from rfl]
      have hmore : more p t p0 p1 p2 ≤ 60 := by unfold more; omega
      refine ⟨by unfold more; omega, ?_⟩
      rw [range_from0]
      obtain ⟨I, hI⟩ : ∃ I : List Int → Mir.Env → List Int → Prop, ∀ r ρ j', I r ρ j' ↔ (j' = j ∧ ∃ acc s11 s12 s13 s14, ρ = ringE p t p0 p1 p2 fs (acc.map Ti) (.val (.int 5)) (.val (.int 0)) (.val (.int p2)) s11 s12 s13 s14 ∧ (∀ x ∈ r, 0 ≤ x ∧ x ≤ 60) ∧
        acc ++ r.flatMap (fun z => ((upto 0 (more p t p0 p1 p2 - z)).map (ringW (max 0 (t - p2)) (max 0 (p0 - t)) (max 0 (p1 - t)) (max 0 (t - p0)) (max 0 (t - p1)) (max 0 (p2 - t)) (more p t p0 p1 p2) z)).filter (fits fs)) = allP p p0 p1 p2 (fits fs)) := ⟨_, fun _ _ _ => Iff.rfl⟩
      refine wp_forL D.int I ((hI _ _ _).mpr ⟨rfl, [], _, _, _, _, rfl, fun x hx => by have := mem_upto.mp hx; omega, hall.symm⟩) (fun z r ρ j' h => ?_) fun ρ j' h => ?_
      · obtain ⟨rfl, acc, s11, s12, s13, s14, rfl, hr, e⟩ := (hI _ _ _).mp h
        have h0 := hr z List.mem_cons_self
        unfold ringE
        simp
        have hm2 : -200 ≤ more p t p0 p1 p2 := by unfold more; omega
        refine ⟨by omega, ?_⟩
        rw [range_from0]
        rw [List.flatMap_cons, ← List.append_assoc] at e
        obtain ⟨I', hI'⟩ : ∃ I : List Int → Mir.Env → List Int → Prop, ∀ r' ρ j'', I r' ρ j'' ↔ (j'' = j' ∧ ∃ acc' s12 s13 s14, ρ = ringE p t p0 p1 p2 fs (acc'.map Ti) (.val (.int 5)) (.val (.int 0)) (.val (.int p2)) (.val (.int z)) s12 s13 s14 ∧
          acc' ++ (r'.map (ringW (max 0 (t - p2)) (max 0 (p0 - t)) (max 0 (p1 - t)) (max 0 (t - p0)) (max 0 (t - p1)) (max 0 (p2 - t)) (more p t p0 p1 p2) z)).filter (fits fs) = acc ++ ((upto 0 (more p t p0 p1 p2 - z)).map (ringW (max 0 (t - p2)) (max 0 (p0 - t)) (max 0 (p1 - t)) (max 0 (t - p0)) (max 0 (t - p1)) (max 0 (p2 - t)) (more p t p0 p1 p2) z)).filter (fits fs)) := ⟨_, fun _ _ _ => Iff.rfl⟩
        refine wp_forL D.int I' ((hI' _ _ _).mpr ⟨rfl, acc, _, _, _, rfl, rfl⟩) (fun x r' ρ j'' h' => ?_) fun ρ j'' h' => ?_
        · obtain ⟨rfl, acc', s12, s13, s14, rfl, e'⟩ := (hI' _ _ _).mp h'
          unfold ringE
          have r6 : rangeD 0 6 = [.int 0, .int 1, .int 2, .int 3, .int 4, .int 5] := rfl
          simp [r6, mLcL]
          have la : acc'.length ≤ 3721 := by
            have := congrArg List.length e'
            have h2 := congrArg List.length e
            simp only [List.length_append] at this h2
            omega
          rw [List.map_cons, filter_step] at e'
          have hw : D.tup [.int (max 0 (t - p2) + z), .int (max 0 (p0 - t) + x), .int (max 0 (p1 - t) + (more p t p0 p1 p2 - z - x)), .int (max 0 (t - p0) + x), .int (max 0 (t - p1) + (more p t p0 p1 p2 - z - x)), .int (max 0 (p2 - t) + z)] =
            Ti (ringW (max 0 (t - p2)) (max 0 (p0 - t)) (max 0 (p1 - t)) (max 0 (t - p0)) (max 0 (t - p1)) (max 0 (p2 - t)) (more p t p0 p1 p2) z x) := rfl
          rw [hw]
          generalize hg : ringW (max 0 (t - p2)) (max 0 (p0 - t)) (max 0 (p1 - t)) (max 0 (t - p0)) (max 0 (t - p1)) (max 0 (p2 - t)) (more p t p0 p1 p2) z x = w at e'
          have h6 : Six w := by subst hg; exact ring_six
          simp [c46 h6, c50 cnt_len]
          by_cases q2 : fits fs w = true
          · rw [if_pos (show wB _ _ = true from q2)]
            refine ⟨by omega, (hI' _ _ _).mpr ⟨rfl, acc' ++ [w], _, _, _, by rw [List.map_append]; rfl, ?_⟩⟩
            rw [← e', if_pos q2]
          · rw [if_neg (show ¬ wB _ _ = true from q2)]
            refine (hI' _ _ _).mpr ⟨rfl, acc', _, _, _, rfl, ?_⟩
            rw [← e', if_neg q2]
        · obtain ⟨rfl, acc', s12, s13, s14, rfl, e'⟩ := (hI' _ _ _).mp h'
          rw [List.map_nil, List.filter_nil, List.append_nil] at e'
          subst e'
          exact (hI _ _ _).mpr ⟨rfl, _, _, _, _, _, rfl, fun x hx => hr x (List.mem_cons_of_mem _ hx), e⟩
      · obtain ⟨rfl, acc, s11, s12, s13, s14, rfl, hr, e⟩ := (hI _ _ _).mp h
        rw [List.flatMap_nil, List.append_nil] at e
        subst e
        unfold ringE
        simp
    · by_cases q3 : p ≤ p0 + p1 + p2
      · rw [if_neg q, if_pos q3]
        first | rw [if_pos (show p < p0 + p1 + p2 - p by omega)] | rw [if_neg (show ¬ p0 + p1 + p2 - p ≤ p by omega)]
        rw [P73.all_none (by omega)]
        try simp
      · rw [if_neg q, if_neg q3, P73.all_none (by omega)]
        try simp
end Mir
set_option Elab.async false
set_option linter.all false
set_option maxRecDepth 100000
set_option maxHeartbeats 4000000
/-! K73h: what is drawn. -/
namespace Mir
open PySem L2 PySem.Spec PyProof.Rows
open Q70 (upto mem_upto)
open P73 (Pr allP mem_allP)
variable {j : List Int} {Q : D → List Int → Prop}
def Jar3 (j : List Int) : Prop := ∃ a m k, j = [a, m, k] ∧ 0 ≤ a ∧ 0 ≤ m ∧ m < 2147483423
theorem wp_draw {n : Int} (h : Jar3 j) (hn : 0 < n) (hn2 : n < 1000000) (hq : ∀ r j', Jar3 j' → 0 ≤ r → r < n → Q (.int r) j') : wp (f_44 [.jar, .int n] j) Q := by
  obtain ⟨a, m, k, rfl, h0, h1, h2⟩ := h
  unfold f_44
  rw [wp_def]
  unfold m_44
  simp
  refine ⟨by omega, ?_⟩
  split
  · refine ⟨⟨hn, by omega⟩, hq _ _ ⟨_, _, _, rfl, Int.ediv_nonneg h0 (by omega), Int.emod_nonneg _ (by omega), Int.emod_lt_of_pos _ (by omega)⟩ (Int.emod_nonneg _ (by omega)) (Int.emod_lt_of_pos _ hn)⟩
  · exact ⟨hn, hq _ _ ⟨_, _, _, rfl, h0, Int.emod_nonneg _ (by omega), Int.emod_lt_of_pos _ (by omega)⟩ (Int.emod_nonneg _ (by omega)) (Int.emod_lt_of_pos _ hn)⟩
theorem wp_menu {ds : List D} (h : Jar3 j) (h0 : 0 < ds.length) (h1 : ds.length < 100000) (hq : ∀ d j', Jar3 j' → d ∈ ds → Q d j') : wp (f_45 [.jar, .lst ds] j) Q := by
  unfold f_45
  rw [wp_def]
  unfold m_45
  simp
  refine wp_draw h (by omega) (by omega) fun r j' hj r0 r1 => ?_
  obtain ⟨k, rfl⟩ := Int.eq_ofNat_of_zero_le r0
  have hk : k < ds.length := by omega
  simp [hk]
  exact hq _ _ hj (List.getElem_mem hk)
def Prf (p : Int) (d : D) : Prop := ∃ a b c d' e f : Int, d = Ti [a, b, c, d', e, f] ∧ 0 ≤ a ∧ 0 ≤ b ∧ 0 ≤ c ∧ 0 ≤ d' ∧ 0 ≤ e ∧ 0 ≤ f ∧ a + b + c + d' + e + f = p
theorem wp_prof {p : Int} (h : Jar3 j) (hp : 0 ≤ p ∧ p ≤ 60) (hq : ∀ d j', Jar3 j' → Prf p d → Q d j') : wp (f_47 [.jar, .int p] j) Q := by
  unfold f_47
  rw [wp_def]
  unfold m_47
  simp
  refine wp_draw h (by omega) (by omega) fun n j1 hj n0 n1 => ?_
  simp
  refine ⟨by omega, ?_⟩
  rw [show (1 + n) = n + 1 by omega, range_from0]
  obtain ⟨I, hI⟩ : ∃ I : List Int → Mir.Env → List Int → Prop, ∀ r ρ j', I r ρ j' ↔ (Jar3 j' ∧ ∃ (a b c d e f rest : Int) (s4 s5 s6 : Sl), ρ = [.val .jar, .val (.int p), .own [.int a, .int b, .int c, .int d, .int e, .int f], .val (.int rest), s4, s5, s6] ∧ 0 ≤ a ∧ 0 ≤ b ∧ 0 ≤ c ∧ 0 ≤ d ∧ 0 ≤ e ∧ 0 ≤ f ∧ 0 ≤ rest ∧ a + b + c + d + e + f + rest = p) := ⟨_, fun _ _ _ => Iff.rfl⟩
  refine wp_forL D.int I ((hI _ _ _).mpr ⟨hj, 0, 0, 0, 0, 0, 0, p, _, _, _, rfl, by omega⟩) (fun z r ρ j' h => ?_) fun ρ j' h => ?_
  · obtain ⟨hj, a, b, c, d, e, f, rest, s4, s5, s6, rfl, hb⟩ := (hI _ _ _).mp h
    simp
    refine wp_draw hj (by omega) (by omega) fun own j2 hj2 o0 o1 => ?_
    simp
    refine wp_draw hj2 (by omega) (by omega) fun k j3 hj3 k0 k1 => ?_
    rcases (by omega : k = 0 ∨ k = 1 ∨ k = 2 ∨ k = 3 ∨ k = 4 ∨ k = 5) with rfl | rfl | rfl | rfl | rfl | rfl <;> simp <;>
      exact (hI _ _ _).mpr ⟨hj3, _, _, _, _, _, _, _, _, _, _, rfl, by omega⟩
  · obtain ⟨hj, a, b, c, d, e, f, rest, s4, s5, s6, rfl, hb⟩ := (hI _ _ _).mp h
    simp
    refine wp_draw hj (by omega) (by omega) fun k j3 hj3 k0 k1 => ?_
    rcases (by omega : k = 0 ∨ k = 1 ∨ k = 2 ∨ k = 3 ∨ k = 4 ∨ k = 5) with rfl | rfl | rfl | rfl | rfl | rfl <;> simp <;>
      exact hq _ _ hj3 ⟨_, _, _, _, _, _, rfl, by omega⟩
theorem wp_around {own p : Int} (h : Jar3 j) (hp : 0 ≤ p ∧ p ≤ 60) (ho : 0 ≤ own ∧ own ≤ 100) (hq : ∀ e j', Jar3 j' → InS e → Q (T2 e) j') : wp (f_48 [.jar, .int own, .int p] j) Q := by
  unfold f_48
  rw [wp_def]
  unfold m_48
  simp
  refine wp_draw h (by omega) (by omega) fun way j1 hj1 w0 w1 => ?_
  simp
  refine wp_draw hj1 (by omega) (by omega) fun far j2 hj2 f0 f1 => ?_
  simp
  split
  · exact hq (0, p) _ hj2 (by unfold InS; simp; omega)
  · split
    · exact hq (own, own) _ hj2 (by unfold InS; simp; omega)
    · split
      · refine wp_draw hj2 (by omega) (by omega) fun x j3 hj3 x0 x1 => ?_
        simp
        exact hq (_, _) _ hj3 (by unfold InS; simp; omega)
      · refine wp_draw hj2 (by omega) (by omega) fun x j3 hj3 x0 x1 => ?_
        simp
        exact hq (_, _) _ hj3 (by unfold InS; simp; omega)
def Plan (p p0 p1 p2 : Int) (fs : List (Int × Int)) : Prop := (0 ≤ p0 ∧ p0 ≤ 61) ∧ (0 ≤ p1 ∧ p1 ≤ 61) ∧ (0 ≤ p2 ∧ p2 ≤ 61) ∧ fs.length = 3 ∧ ∀ e ∈ fs, InS e
theorem wp_plan {p : Int} (h : Jar3 j) (hp : 1 ≤ p ∧ p ≤ 60) (hq : ∀ p0 p1 p2 fs j', Jar3 j' → Plan p p0 p1 p2 fs → Q (PlanD p p0 p1 p2 fs) j') : wp (f_49 [.jar, .int p] j) Q := by
  unfold f_49
  rw [wp_def]
  unfold m_49
  simp
  refine wp_prof h (by omega) fun d j1 hj1 hd => ?_
  obtain ⟨a, b, c, d', e, f, rfl, hb⟩ := hd
  try simp
  refine wp_draw hj1 (by omega) (by omega) fun way j2 hj2 w0 w1 => ?_
  try simp
  refine wp_draw hj2 (by omega) (by omega) fun at' j3 hj3 a0 a1 => ?_
  have h6 : Six [a, b, c, d', e, f] := ⟨_, _, _, _, _, _, rfl⟩
  simp [c46 h6]
  have tail : ∀ (q0 q1 q2 : Int) (s7 s8 : Sl) (jj : List Int), Jar3 jj → (0 ≤ q0 ∧ q0 ≤ 61) ∧ (0 ≤ q1 ∧ q1 ≤ 61) ∧ (0 ≤ q2 ∧ q2 ≤ 61) →
     wp (mLcL (gN 8) mYes (mCall 3 f_48 (mCons (mVar .keep 0) (mCons (mVar .keep 8) (mCons (mVar .keep 1) mNil)))) ((P73.cnt [a, b, c, d', e, f]).2.map D.int) [.val .jar, .val (.int p), .val (Ti [a, b, c, d', e, f]), .val (.int way), .val (.int at'), .val (Ti [q0, q1, q2]), .val (Ti (P73.cnt [a, b, c, d', e, f]).2), s7, s8] jj) fun xs j2 => Q (.lst [.int p, Ti [q0, q1, q2], .tup xs]) j2 := by
    intro q0 q1 q2 s7 s8 jj hjj hbb
    show wp (mLcL (gN 8) mYes _ [.int (a + b), .int (c + d'), .int (e + f)] _ jj) _
    simp [mLcL]
    refine wp_around hjj (by omega) (by omega) fun e1 k1 hk1 i1 => ?_
    refine wp_around hk1 (by omega) (by omega) fun e2 k2 hk2 i2 => ?_
    refine wp_around hk2 (by omega) (by omega) fun e3 k3 hk3 i3 => ?_
    exact hq q0 q1 q2 [e1, e2, e3] _ hk3 ⟨hbb.1, hbb.2.1, hbb.2.2, rfl, by simp [i1, i2, i3]⟩
  have e1 : Ti (P73.cnt [a, b, c, d', e, f]).1 = .tup [.int (a + b + e), .int (a + c + d'), .int (d' + e + f)] := rfl
  have tail' : ∀ (q0 q1 q2 : Int) (s7 s8 : Sl) (jj : List Int), Jar3 jj → (0 ≤ q0 ∧ q0 ≤ 61) ∧ (0 ≤ q1 ∧ q1 ≤ 61) ∧ (0 ≤ q2 ∧ q2 ≤ 61) →
     wp (dSeqA (Ti (P73.cnt [a, b, c, d', e, f]).2) jj) (fun ds j1 => ds.length ≤ 16777216 ∧ wp (mLcL (gN 8) mYes (mCall 3 f_48 (mCons (mVar .keep 0) (mCons (mVar .keep 8) (mCons (mVar .keep 1) mNil)))) ds [.val .jar, .val (.int p), .val (Ti [a, b, c, d', e, f]), .val (.int way), .val (.int at'), .val (Ti [q0, q1, q2]), .val (Ti (P73.cnt [a, b, c, d', e, f]).2), s7, s8] j1) fun xs j2 => Q (.lst [.int p, Ti [q0, q1, q2], .tup xs]) j2) := by
    intro q0 q1 q2 s7 s8 jj hjj hbb
    exact ⟨by show 3 ≤ _; omega, tail q0 q1 q2 s7 s8 jj hjj hbb⟩
  by_cases q0 : way = 0
  · subst q0
    have r3 : rangeD 0 3 = [.int 0, .int 1, .int 2] := rfl
    simp [r3, mLcL]
    refine wp_draw hj3 (by omega) (by omega) fun x0 k1 hk1 l1 u1 => ?_
    refine wp_draw hk1 (by omega) (by omega) fun x1 k2 hk2 l2 u2 => ?_
    refine wp_draw hk2 (by omega) (by omega) fun x2 k3 hk3 l3 u3 => ?_
    exact tail' x0 x1 x2 _ _ k3 hk3 (by omega)
  · rw [if_neg q0]
    by_cases q1 : way = 1
    · subst q1
      rw [e1]
      have c0 : ∀ x y z : D, cutD [x, y, z] none (some 0) = [] := fun _ _ _ => rfl
      have c1 : ∀ x y z : D, cutD [x, y, z] none (some 1) = [x] := fun _ _ _ => rfl
      have c2 : ∀ x y z : D, cutD [x, y, z] none (some 2) = [x, y] := fun _ _ _ => rfl
      have d1 : ∀ x y z : D, cutD [x, y, z] (some 1) none = [y, z] := fun _ _ _ => rfl
      have d2 : ∀ x y z : D, cutD [x, y, z] (some 2) none = [z] := fun _ _ _ => rfl
      have d3 : ∀ x y z : D, cutD [x, y, z] (some 3) none = [] := fun _ _ _ => rfl
      rcases (by omega : at' = 0 ∨ at' = 1 ∨ at' = 2) with rfl | rfl | rfl
      · simp [c0, c1, c2, d1, d2, d3]
        exact tail' (a + b + e + 1) (a + c + d') (d' + e + f) _ _ j3 hj3 (by omega)
      · simp [c0, c1, c2, d1, d2, d3]
        exact tail' (a + b + e) (a + c + d' + 1) (d' + e + f) _ _ j3 hj3 (by omega)
      · simp [c0, c1, c2, d1, d2, d3]
        exact tail' (a + b + e) (a + c + d') (d' + e + f + 1) _ _ j3 hj3 (by omega)
    · rw [if_neg q1]
      by_cases q2 : way = 2
      · rw [if_pos q2]
        exact hq (a + b + e) (a + c + d') (d' + e + f) [(0, p), (0, p), (0, p)] _ hj3 ⟨by omega, by omega, by omega, rfl, by unfold InS; simp; omega⟩
      · rw [if_neg q2]
        exact tail' (a + b + e) (a + c + d') (d' + e + f) _ _ j3 hj3 (by omega)
end Mir
set_option Elab.async false
set_option linter.all false
set_option maxRecDepth 100000
set_option maxHeartbeats 4000000
/-! K73i: a profile bent. -/
namespace Mir
open PySem L2 PySem.Spec PyProof.Rows
variable {j : List Int} {Q : D → List Int → Prop}
def Val (d : D) : Prop := (∃ i, d = .int i) ∨ ((∀ i, d ≠ .int i) ∧ LayN 50 d ∧ ∃ b, tyOf d = some b)
theorem val_int {i : Int} : Val (.int i) := .inl ⟨i, rfl⟩
theorem odd6 {ds : List D} (hl : ds.length = 6) (h : ∀ d ∈ ds, Val d) : Odd (.tup ds) := by
  by_cases q : ∀ d ∈ ds, ∃ i, d = .int i
  · match ds, hl, q with
    | [a, b, c, d, e, f], _, q =>
      obtain ⟨a, rfl⟩ := q a (by simp)
      obtain ⟨b, rfl⟩ := q b (by simp)
      obtain ⟨c, rfl⟩ := q c (by simp)
      obtain ⟨d, rfl⟩ := q d (by simp)
      obtain ⟨e, rfl⟩ := q e (by simp)
      obtain ⟨f, rfl⟩ := q f (by simp)
      exact .six (w := [a, b, c, d, e, f]) ⟨_, _, _, _, _, _, rfl⟩
  · have : ∃ d ∈ ds, ¬ ∃ i, d = .int i := by
      refine Classical.byContradiction fun z => q fun d m => Classical.byContradiction fun z2 => z ⟨d, m, z2⟩
    obtain ⟨d, m, hd⟩ := this
    refine .bad hl ⟨d, m, fun i e => hd ⟨i, e⟩⟩ (fun d m => ?_) fun d m => ?_
    · rcases h d m with ⟨i, rfl⟩ | h
      · exact layN_int
      · exact h.2.1
    · rcases h d m with ⟨i, rfl⟩ | h
      · exact ⟨_, rfl⟩
      · exact h.2.2
theorem val_set {ds : List D} {x : D} (k : Nat) (h : ∀ d ∈ ds, Val d) (hx : Val x) : ∀ d ∈ ds.set k x, Val d := fun d m => (List.mem_or_eq_of_mem_set m).elim (h d) fun e => e ▸ hx
theorem val_six (a b c d e f : Int) : ∀ x ∈ ([.int a, .int b, .int c, .int d, .int e, .int f] : List D), Val x := fun x m => by
  simp only [List.mem_cons, List.not_mem_nil, or_false] at m
  rcases m with rfl | rfl | rfl | rfl | rfl | rfl <;> exact val_int
theorem ix6 {i : Int} (h0 : 0 ≤ i) (h1 : i < 6) : ∃ k : Nat, k < 6 ∧ ixN 6 i = some k := by
  obtain ⟨k, rfl⟩ := Int.eq_ofNat_of_zero_le h0
  exact ⟨k, by omega, by rw [ixN_nat, if_pos (by omega)]⟩
theorem get6 (a b c d e f : Int) {k : Nat} (h : k < 6) : ∃ i : Int, ([.int a, .int b, .int c, .int d, .int e, .int f] : List D)[k]? = some (.int i) := by
  rcases (by omega : k = 0 ∨ k = 1 ∨ k = 2 ∨ k = 3 ∨ k = 4 ∨ k = 5) with rfl | rfl | rfl | rfl | rfl | rfl <;> exact ⟨_, rfl⟩
theorem wp_bent {a b c d' e f : Int} (h : Jar3 j) (hq : ∀ d j', Jar3 j' → Odd d → Q d j') : wp (f_54 [.jar, Ti [a, b, c, d', e, f]] j) Q := by
  unfold f_54
  rw [wp_def]
  unfold m_54
  simp
  refine wp_draw h (by omega) (by omega) fun way j1 hj1 w0 w1 => ?_
  try simp
  refine wp_draw hj1 (by omega) (by omega) fun at' j2 hj2 a0 a1 => ?_
  try simp
  refine wp_draw hj2 (by omega) (by omega) fun k j3 hj3 k0 k1 => ?_
  try simp
  obtain ⟨n, hn, en⟩ := ix6 a0 a1
  obtain ⟨m, hm, em⟩ := ix6 k0 k1
  obtain ⟨x, hx⟩ := get6 a b c d' e f hn
  obtain ⟨y, hy⟩ := get6 a b c d' e f hm
  have v6 := val_six a b c d' e f
  rcases (by omega : way = 0 ∨ way = 1 ∨ way = 2 ∨ way = 3 ∨ way = 4 ∨ way = 5) with rfl | rfl | rfl | rfl | rfl | rfl
  · simp [Ti, en, hx]
    refine wp_menu hj3 (by simp) (by simp) fun d j' hj' md => ?_
    simp at md
    rcases md with rfl | rfl | rfl <;> simp <;> exact hq _ _ hj' (odd6 (by simp) (val_set n v6 val_int))
  · simp [Ti, en, em, hx, hy]
    exact hq _ _ hj3 (odd6 (by simp) (val_set m (val_set n v6 val_int) val_int))
  · simp [Ti, en, em, hx, hy]
    exact hq _ _ hj3 (odd6 (by simp) (val_set m (val_set n v6 val_int) val_int))
  · simp [Ti, en]
    refine wp_menu hj3 (by simp) (by simp) fun d j' hj' md => ?_
    simp at md
    rcases md with rfl | rfl | rfl | rfl | rfl | rfl | rfl | rfl
    · exact hq _ _ hj' (odd6 (by simp) (val_set n v6 (.inr ⟨(fun i z => nomatch z), by simp, _, rfl⟩)))
    · exact hq _ _ hj' (odd6 (by simp) (val_set n v6 (.inr ⟨(fun i z => nomatch z), by simp, _, rfl⟩)))
    · exact hq _ _ hj' (odd6 (by simp) (val_set n v6 (.inr ⟨(fun i z => nomatch z), by simp, _, rfl⟩)))
    · exact hq _ _ hj' (odd6 (by simp) (val_set n v6 val_int))
    · exact hq _ _ hj' (odd6 (by simp) (val_set n v6 (.inr ⟨(fun i z => nomatch z), layN_str (by decide +kernel), _, rfl⟩)))
    · exact hq _ _ hj' (odd6 (by simp) (val_set n v6 (.inr ⟨(fun i z => nomatch z), layN_tup (n := 49) (by simp), _, rfl⟩)))
    · exact hq _ _ hj' (odd6 (by simp) (val_set n v6 (.inr ⟨(fun i z => nomatch z), layN_lst (n := 49) (by simp), _, rfl⟩)))
    · exact hq _ _ hj' (odd6 (by simp) (val_set n v6 val_int))
  · simp [Ti]
    refine wp_menu hj3 (by simp) (by simp) fun d j' hj' md => ?_
    simp only [List.mem_cons, List.not_mem_nil, or_false] at md
    have c5 : ∀ a b c d e f : D, cutD [a, b, c, d, e, f] none (some 5) = [a, b, c, d, e] := fun _ _ _ _ _ _ => rfl
    rw [c5] at md
    rcases md with rfl | rfl | rfl | rfl | rfl | rfl | rfl | rfl | rfl | rfl | rfl
    · exact hq _ _ hj' (.els (b := .lst) rfl (by decide))
    · exact hq _ _ hj' (.len (by simp))
    · exact hq _ _ hj' (.len (by simp))
    · exact hq _ _ hj' (.els (b := .non) rfl (by decide))
    · exact hq _ _ hj' (.len (by simp))
    · exact hq _ _ hj' (.els (b := .dct) rfl (by decide))
    · exact hq _ _ hj' (.els (b := .int) rfl (by decide))
    · exact hq _ _ hj' (.els (b := .str) rfl (by decide))
    · exact hq _ _ hj' (.len (by simp))
    · exact hq _ _ hj' (.els (b := .lst) rfl (by decide))
    · exact hq _ _ hj' (.els (b := .bool) rfl (by decide))
  · simp [Ti]
    exact hq _ _ hj3 (.six (w := [a, b, c, d', e, f]) ⟨_, _, _, _, _, _, rfl⟩)
end Mir
set_option Elab.async false
set_option linter.all false
set_option maxRecDepth 100000
set_option maxHeartbeats 4000000
/-! K73j: the law of one plan, from its end. -/
namespace Mir
open PySem L2 PySem.Spec PyProof.Rows
def b_55_7 : Mir.Env → M Fl := (mSeq (mSet 10 (mCall 2 f_53 (mCons (mVar .keep 1) (mCons (mVar .keep 9) mNil)))) (mSeq (mIf (mAsB (mBin dNe (mCl dRepr (mCons (mLst (mCons (mCall 2 f_37 (mCons (mVar .keep 4) (mCons (mVar .keep 9) mNil))) (mCons (mCallK 0 2 [1, 0] 2 f_37 mNil (mCons (mVar .keep 9) (mCons (mVar .keep 4) mNil))) mNil))) mNil)) (mCl dRepr (mCons (mLst (mCons (mVar .keep 10) (mCons (mVar .keep 10) mNil))) mNil)))) (mSeq (mRet (mC (.bl false))) mNext) mNext) mNext))
def t_55_7 : Mir.Env → M Fl := (mSeq (mSet 11 (mCl (dMake 4 f_31_0) (mCons (mBin dIx (mVar .look 1) (mC (.int 0))) (mCons (mBin dIx (mVar .look 1) (mC (.int 1))) (mCons (mBin dMulT (mTup (mCons (mTup (mCons (mC (.int 0)) (mCons (mBin dIx (mVar .look 1) (mC (.int 0))) mNil))) mNil)) (mC (.int 3))) mNil))))) (mSeq (mSet 12 (mChain3 dLe dLe dLe (mCl dMax (mCons (mBin dIx (mVar .look 1) (mC (.int 1))) mNil)) (mBin dIx (mVar .look 1) (mC (.int 0))) (mCl dSum (mCons (mBin dIx (mVar .look 1) (mC (.int 1))) mNil)) (mBin dMul (mC (.int 2)) (mBin dIx (mVar .look 1) (mC (.int 0)))))) (mSeq (mRet (mBin dEq (mNotN (mCall 1 f_40 (mCons (mVar .keep 11) mNil))) (mVar .look 12))) mNext)))
def t_55_5 : Mir.Env → M Fl := (mSeq (mSetO 8 (mComp [14] (mRng1 (mC (.int 5))) (gN 14) mYes (mCall 2 f_54 (mCons (mVar .keep 0) (mCons (mBin dIx (mVar .look 7) (mBin dMod (mCl dInt (mCons (mVar .look 14) mNil)) (mCl dLen (mCons (mVar .look 7) mNil)))) mNil))))) (mFrz 8 (mSeq (mFor (mSeqA (mBin dAdd (mBin dAdd (mVar .look 7) (mVar .look 8)) (mComp [14] (mRng1 (mIfE (mAsB (mBin dNe (mVar .look 2) (mLst mNil))) (mC (.int 4)) (mC (.int 0)))) (gN 14) mYes (mCall 2 f_45 (mCons (mVar .keep 0) (mCons (mVar .keep 2) mNil)))))) (gN 9) b_55_7) t_55_7)))
def t_55_4 : Mir.Env → M Fl := (mSeq (mSet 7 (mIfE (mAsB (mBin dNe (mVar .look 3) (mLst mNil))) (mLst (mCons (mBin dIx (mVar .look 3) (mC (.int 0))) (mCons (mBin dIx (mVar .look 3) (mUn dNeg (mC (.int 1)))) (mCons (mBin dIx (mVar .look 3) (mCall 2 f_44 (mCons (mVar .keep 0) (mCons (mVar .keep 6) mNil)))) mNil)))) (mLst (mCons (mCall 2 f_47 (mCons (mVar .keep 0) (mCons (mBin dIx (mVar .look 1) (mC (.int 0))) mNil))) mNil)))) t_55_5)
def t_55_2 : Mir.Env → M Fl := (mSeq (mIf (mAsB (mBin dNe (mCl dRepr (mCons (mLst (mCons (mCall 1 f_40 (mCons (mVar .keep 4) mNil)) (mCons (mCallK 0 1 [0] 1 f_41 mNil (mCons (mVar .keep 4) mNil)) mNil))) mNil)) (mCl dRepr (mCons (mLst (mCons (mVar .keep 5) (mCons (mVar .keep 6) mNil))) mNil)))) (mSeq (mRet (mC (.bl false))) mNext) mNext) (mSeq (mIf (mAnd (mAsB (mBin dLt (mBin dIx (mVar .look 1) (mC (.int 0))) (mC (.int 9)))) (mAsB (mBin dNe (mCl dRepr (mCons (mLst (mCons (mCallK 0 1 [0] 1 f_40 mNil (mCons (mVar .keep 4) mNil)) (mCons (mCall 1 f_41 (mCons (mVar .keep 4) mNil)) mNil))) mNil)) (mCl dRepr (mCons (mLst (mCons (mVar .keep 5) (mCons (mVar .keep 6) mNil))) mNil))))) (mSeq (mRet (mC (.bl false))) mNext) mNext) t_55_4))
theorem m_55_cut : m_55 = (mSeq (mSetO 3 (mComp [13] (mSeqA (mVar .keep 2)) (gN 13) (mTru (mCall 2 f_50 (mCons (mBin dIx (mCall 1 f_46 (mCons (mVar .keep 13) mNil)) (mC (.int 1))) (mCons (mBin dIx (mVar .look 1) (mC (.int 2))) mNil)))) (mVar .keep 13))) (mFrz 3 (mSeq (mPar [4, 5, 6] [false, false, false] (mCons (mCl (dMake 4 f_31_0) (mCons (mBin dIx (mVar .look 1) (mC (.int 0))) (mCons (mBin dIx (mVar .look 1) (mC (.int 1))) (mCons (mBin dIx (mVar .look 1) (mC (.int 2))) mNil)))) (mCons (mIfE (mAsB (mBin dNe (mVar .look 3) (mLst mNil))) (mBin dIx (mVar .look 3) (mC (.int 0))) (mC .non)) (mCons (mCl dLen (mCons (mVar .look 3) mNil)) mNil)))) t_55_2))) := rfl
open Q70 (upto mem_upto)
open P73 (Pr allP mem_allP)
variable {j : List Int}
variable {p p0 p1 p2 : Int} {fs : List (Int × Int)}
def wide (p : Int) : List (Int × Int) := [(0, p), (0, p), (0, p)]
theorem pr_six {w : List Int} (h : Pr p p0 p1 p2 w) : Six w := by
  obtain ⟨a, b, c, d, e, f, rfl, _⟩ := h
  exact ⟨_, _, _, _, _, _, rfl⟩
theorem fits_wide {w : List Int} (h : Pr p p0 p1 p2 w) : fits (wide p) w = true := by
  obtain ⟨a, b, c, d, e, f, rfl, h⟩ := h
  show wB [a + b, c + d, e + f] (wide p) = true
  unfold wB wide
  simp
  omega
theorem prt_sm {x : Int} (h : Sm x) : Prt (.int x) 0 1921 := prt_int h.log
theorem prt_tis {w : List Int} (h : ∀ x ∈ w, Sm x) (hl : w.length ≤ 6) : Prt (Ti w) 1 20000 :=
  (prt_tup (prtAll_map (g := D.int) (k := 0) (n := 1921) w fun x hx => prt_sm (h x hx))).mono (by omega) (by
    have : w.length * (1921 + 2) ≤ 6 * 1923 := Nat.mul_le_mul_right _ hl
    omega)
theorem prt_head {ws : List (List Int)} (hp : p ≤ 60) (h : ∀ w ∈ ws, Pr p p0 p1 p2 w) (hl : ws.length ≤ 3721) : Prt (.lst [headD ws, .int (ws.length : Nat)]) 2 40000 := by
  have h1 : Prt (headD ws) 1 20000 := by
    cases ws with
    | nil => exact prt_non.mono (by omega) (by omega)
    | cons w ws =>
      obtain ⟨a, b, c, d, e, f, rfl, h⟩ := h w List.mem_cons_self
      exact prt_tis (by unfold Sm; simp; omega) (by simp)
  have h2 : Prt (.int (ws.length : Nat)) 1 1921 := (prt_sm (by unfold Sm; omega)).mono (by omega) (by omega)
  exact (prt_lst (prtAll_cons h1 (prtAll_cons h2 (prtAll_nil 1)))).mono (by omega) (by omega)
theorem prt_bb {a b : Bool} : Prt (.lst [.bl a, .bl b]) 2 40000 := by
  have h : ∀ a : Bool, Prt (.bl a) 0 5 := fun a => ⟨.bool a, rfl, rfl, Nat.le_refl _, by cases a <;> decide⟩
  exact (prt_lst (prtAll_cons (h a) (prtAll_cons (h b) (prtAll_nil 0)))).mono (by omega) (by omega)
theorem headD_ne {ws : List (List Int)} : isNon (headD ws) = ws.isEmpty := by cases ws <;> rfl
def E55 (p p0 p1 p2 : Int) (fs : List (Int × Int)) (t : Str) (ws L : List (List Int)) (f : D) (n : Int) (s7 s8 s9 s10 : Sl) : Mir.Env := [.val .jar, .val (PlanD p p0 p1 p2 fs), .val (.lst (ws.map Ti)), .val (.lst (L.map Ti)), .val (VotesD p [p0, p1, p2] fs t), .val f, .val (.int n), s7, s8, s9, s10, .no, .no, .no, .no]
theorem t55_7 {t : Str} {ws L : List (List Int)} {f : D} {n : Int} {s7 s8 s9 s10 : Sl} (h : Jar3 j) (hp : 1 ≤ p ∧ p ≤ 60) (hP : Plan p p0 p1 p2 fs) : wp (t_55_7 (E55 p p0 p1 p2 fs t ws L f n s7 s8 s9 s10) j) fun f j' => Jar3 j' ∧ f = .rt (.bl true) := by
  obtain ⟨b0, b1, b2, hl3, hS⟩ := hP
  have hsome := P73.some_iff (p := p) (p0 := p0) (p1 := p1) (p2 := p2) (fits := fits (wide p)) b0.1 b1.1 b2.1 fun w hw => fits_wide hw
  unfold t_55_7 E55
  simp [plan0, plan1, plan2]
  refine wp_mono (c31 (j := j) (p := p) (ps := [p0, p1, p2]) (fs := wide p) hp (by unfold Sm; simp; omega) rfl (by unfold wide InS; simp; omega) rfl) ?_
  rintro d j' ⟨rfl, t', rfl⟩
  obtain ⟨m, hm, hm'⟩ := max3 (j := j') (p := p) (a := p0) (b := p1) (c := p2)
  have hs : dSum [Ti [p0, p1, p2]] j' = .ok (.int (p0 + p1 + p2)) j' := by rw [sumTi]; simp; omega
  simp [hm, hs, plan0, plan1, c40 (show 0 ≤ p ∧ p ≤ 60 by omega) b0.1, headD_ne]
  refine ⟨rfl, ?_⟩
  generalize allP p p0 p1 p2 (fits (wide p)) = A at *
  have hA : A = [] ↔ ¬ ((p0 ≤ p ∧ p1 ≤ p ∧ p2 ≤ p) ∧ p ≤ p0 + p1 + p2 ∧ p0 + p1 + p2 ≤ 2 * p) := by
    rw [← hsome]
    simp
  by_cases q1 : m ≤ p
  · rw [if_pos q1]
    by_cases q2 : p ≤ p0 + p1 + p2
    · rw [if_pos q2]
      refine ⟨h, ?_⟩
      by_cases q3 : p0 + p1 + p2 ≤ 2 * p
      · have : A ≠ [] := fun z => (hA.mp z) ⟨by omega, q2, q3⟩
        cases A with
        | nil => exact absurd rfl this
        | cons => simp [q3]
      · have : A = [] := hA.mpr fun z => q3 z.2.2
        subst this
        simp; omega
    · rw [if_neg q2]
      exact ⟨h, hA.mpr fun z => q2 z.2.1⟩
  · rw [if_neg q1]
    exact ⟨h, hA.mpr fun z => by omega⟩
theorem prof_of {d : D} (h : Prf p d) : ∃ w, d = Ti w ∧ Six w := by
  obtain ⟨a, b, c, d', e, f, rfl, _⟩ := h
  exact ⟨_, rfl, _, _, _, _, _, _, rfl⟩
theorem b55_7 {t : Str} {ws L : List (List Int)} {f d : D} {n : Int} {s7 s8 s10 : Sl} (h : Odd d) : wp (b_55_7 (E55 p p0 p1 p2 fs t ws L f n s7 s8 (.val d) s10) j) fun f' j' => j' = j ∧ ∃ s, f' = .nx (E55 p p0 p1 p2 fs t ws L f n s7 s8 (.val d) s) := by
  unfold b_55_7 E55
  simp [c53odd h, c37odd h, wp_reprL (prt_bb (a := isOne p p0 p1 p2 fs d) (b := isOne p p0 p1 p2 fs d)) (by omega) (by omega)]
theorem t55_5 {t : Str} {ws L : List (List Int)} {f : D} {n : Int} {S : List (List Int)} {s8 s9 s10 : Sl} (h : Jar3 j) (hp : 1 ≤ p ∧ p ≤ 60) (hP : Plan p p0 p1 p2 fs) (hw : ∀ w ∈ ws, Six w) (hl : ws.length ≤ 3721) (hS : S ≠ []) (hS3 : S.length ≤ 3) (hS6 : ∀ w ∈ S, Six w) :
    wp (t_55_5 (E55 p p0 p1 p2 fs t ws L f n (.val (.lst (S.map Ti))) s8 s9 s10) j) fun f j' => Jar3 j' ∧ f = .rt (.bl true) := by
  have hlS : 0 < S.length := List.length_pos_iff.mpr hS
  unfold t_55_5 E55
  simp
  have r5 : rangeD 0 5 = (List.range 5).map (fun k => D.int (k : Nat)) := rfl
  rw [r5]
  refine ⟨by simp, ?_⟩
  refine wp_lcI (fun k : Nat => D.int (k : Nat)) (fun r ys j' => Jar3 j' ∧ (∀ d ∈ ys, Odd d) ∧ ys.length + r.length = 5) (fun k r ys j' hi => ?_) (fun ys j' hi => ?_) ⟨h, by simp, by simp⟩
  · obtain ⟨hj, ho, hk⟩ := hi
    rw [List.length_cons] at hk
    obtain ⟨q, hq, e, _⟩ := ixSome (n := S.length) (i := (k : Int) % (S.length : Nat)) (Int.emod_nonneg _ (by omega)) (Int.emod_lt_of_pos _ (by omega))
    simp [e, hq]
    refine ⟨hlS, ?_⟩
    obtain ⟨a, b, c, d', e, f', e6⟩ := hS6 S[q] (List.getElem_mem hq)
    rw [e6]
    refine wp_bent hj fun d j2 hj2 hd => ⟨hj2, fun y hy => ?_, by omega⟩
    rcases hy with hy | hy
    · exact ho y hy
    · rw [hy]; exact hd
  · obtain ⟨hj, ho, hk⟩ := hi
    have hk : ys.length = 5 := hk
    have loop : ∀ (zs : List D) (jj : List Int), Jar3 jj → (∀ d ∈ zs, Odd d) → ∀ s9 s10, wp (mForL (gN 9) b_55_7 zs (E55 p p0 p1 p2 fs t ws L f n (.val (.lst (S.map Ti))) (.val (.lst ys)) s9 s10) jj) fun f' j1 => (∃ ρ', f' = .nx ρ' ∧ wp (t_55_7 ρ' j1) fun f j' => Jar3 j' ∧ f = .rt (.bl true)) := by
      intro zs jj hjj hz s9 s10
      rw [← List.map_id zs]
      obtain ⟨I, hI⟩ : ∃ I : List D → Mir.Env → List Int → Prop, ∀ r ρ j', I r ρ j' ↔ (Jar3 j' ∧ ∃ s9 s10, ρ = E55 p p0 p1 p2 fs t ws L f n (.val (.lst (S.map Ti))) (.val (.lst ys)) s9 s10 ∧ (∀ d ∈ r, Odd d)) := ⟨_, fun _ _ _ => Iff.rfl⟩
      refine wp_forL id I ((hI _ _ _).mpr ⟨hjj, _, _, rfl, hz⟩) (fun d r ρ j' h => ?_) fun ρ j' h => ?_
      · obtain ⟨hj, s9, s10, rfl, hr⟩ := (hI _ _ _).mp h
        rw [wp_gN]
        refine wp_mono (b55_7 (j := j') (p := p) (p0 := p0) (p1 := p1) (p2 := p2) (fs := fs) (t := t) (ws := ws) (L := L) (f := f) (n := n) (s7 := .val (.lst (S.map Ti))) (s8 := .val (.lst ys)) (s10 := s10) (hr d List.mem_cons_self)) ?_
        rintro f' j2 ⟨rfl, s, rfl⟩
        exact (hI _ _ _).mpr ⟨hj, _, _, rfl, fun x hx => hr x (List.mem_cons_of_mem _ hx)⟩
      · obtain ⟨hj, s9, s10, rfl, hr⟩ := (hI _ _ _).mp h
        exact ⟨_, rfl, t55_7 hj hp hP⟩
    refine ⟨by omega, ?_⟩
    rw [wp_neNil lay_Tis]
    have fin : ∀ (xs : List D) (jj : List Int), Jar3 jj → (∀ d ∈ xs, Odd d) → wp (mForL (gN 9) b_55_7 (S.map Ti ++ (ys ++ xs)) (E55 p p0 p1 p2 fs t ws L f n (.val (.lst (S.map Ti))) (.val (.lst ys)) s9 s10) jj) fun f' j1 => (∃ ρ', f' = .nx ρ' ∧ wp (t_55_7 ρ' j1) fun f j' => Jar3 j' ∧ f = .rt (.bl true)) := fun xs jj hjj hx => loop _ jj hjj (fun d m => by
      rcases List.mem_append.mp m with m | m
      · obtain ⟨w, hw, rfl⟩ := List.mem_map.mp m
        exact .six (hS6 w hw)
      · rcases List.mem_append.mp m with m | m
        · exact ho d m
        · exact hx d m) _ _
    have r0 : rangeD 0 0 = [] := rfl
    have r4 : rangeD 0 4 = (List.range 4).map (fun k => D.int (k : Nat)) := rfl
    by_cases hws : ws = []
    · subst hws
      have f0 := fin [] j' hj (by simp)
      rw [List.append_nil] at f0
      simp [r0, mLcL]
      refine ⟨by omega, wp_mono f0 ?_⟩
      rintro f' j1 ⟨ρ', rfl, hf⟩
      exact hf
    · have he : (ws.map Ti).isEmpty = false := by cases ws; exact absurd rfl hws; rfl
      have hlw : 0 < ws.length := List.length_pos_iff.mpr hws
      rw [he]
      simp
      rw [r4]
      refine ⟨by simp, wp_lcI (fun k : Nat => D.int (k : Nat)) (fun r xs j' => Jar3 j' ∧ (∀ d ∈ xs, Odd d) ∧ xs.length + r.length = 4) (fun k r xs j2 hi => ?_) (fun xs j2 hi => ?_) ⟨hj, by simp, by simp⟩⟩
      · obtain ⟨hj2, hx, hk⟩ := hi
        rw [List.length_cons] at hk
        simp
        refine wp_menu hj2 (by rw [List.length_map]; exact hlw) (by rw [List.length_map]; omega) fun d j3 hj3 hd => ⟨hj3, fun y hy => ?_, by omega⟩
        rcases hy with hy | rfl
        · exact hx y hy
        · obtain ⟨w, m, rfl⟩ := List.mem_map.mp hd
          exact .six (hw w m)
      · obtain ⟨hj2, hx, hk⟩ := hi
        have hk : xs.length = 4 := hk
        refine ⟨by omega, wp_mono (fin xs j2 hj2 hx) ?_⟩
        rintro f' j1 ⟨ρ', rfl, hf⟩
        exact hf
theorem t55_4 {t : Str} {ws L : List (List Int)} {f : D} {s7 s8 s9 s10 : Sl} (h : Jar3 j) (hp : 1 ≤ p ∧ p ≤ 60) (hP : Plan p p0 p1 p2 fs) (hw : ∀ w ∈ ws, Six w) (hl : ws.length ≤ 3721) (hL : ∀ w ∈ L, Six w) (hlL : L.length ≤ 3721) :
    wp (t_55_4 (E55 p p0 p1 p2 fs t ws L f (L.length : Nat) s7 s8 s9 s10) j) fun f j' => Jar3 j' ∧ f = .rt (.bl true) := by
  unfold t_55_4
  rw [wp_seq]
  have key : ∀ (S : List (List Int)) (jj : List Int), Jar3 jj → S ≠ [] → S.length ≤ 3 → (∀ w ∈ S, Six w) → wp (t_55_5 (E55 p p0 p1 p2 fs t ws L f (L.length : Nat) (.val (.lst (S.map Ti))) s8 s9 s10) jj) fun f j' => Jar3 j' ∧ f = .rt (.bl true) := fun S jj hj h1 h2 h3 => t55_5 hj hp hP hw hl h1 h2 h3
  unfold E55 at *
  simp
  rw [wp_neNil lay_Tis]
  by_cases hL0 : L = []
  · subst hL0
    simp [plan0]
    refine wp_prof h (by omega) fun d j2 hj2 hd => ?_
    obtain ⟨w, rfl, h6⟩ := prof_of hd
    exact key [w] j2 hj2 (by simp) (by simp) (by simp [h6])
  · have he : (L.map Ti).isEmpty = false := by cases L; exact absurd rfl hL0; rfl
    have hlw : 0 < L.length := List.length_pos_iff.mpr hL0
    rw [he]
    simp [hlw, show L.length - 1 < L.length by omega]
    refine wp_draw h (by omega) (by omega) fun r j2 hj2 r0 r1 => ?_
    obtain ⟨q, hq, e, _⟩ := ixSome r0 r1
    simp [e, hq]
    exact key [L[0], L[L.length - 1], L[q]] j2 hj2 (by simp) (by simp) fun w hw => by
      simp at hw
      rcases hw with rfl | rfl | rfl
      · exact hL _ (List.getElem_mem _)
      · exact hL _ (List.getElem_mem _)
      · exact hL _ (List.getElem_mem _)
/-- what is asked of one plan -/
theorem c55 (h : Jar3 j) (hp : 1 ≤ p ∧ p ≤ 60) (hP : Plan p p0 p1 p2 fs) : wp (f_55 [.jar, PlanD p p0 p1 p2 fs, .lst ((allP p p0 p1 p2 (fits (wide p))).map Ti)] j) fun d j' => Jar3 j' ∧ d = .bl true := by
  have hP' := hP
  obtain ⟨b0, b1, b2, hl3, hS⟩ := hP
  have hlen := allP_len (p := p) (p0 := p0) (p1 := p1) (p2 := p2) (g := fits (wide p)) hp.2
  have hlen2 := allP_len (p := p) (p0 := p0) (p1 := p1) (p2 := p2) (g := fits fs) hp.2
  have hmem : ∀ w ∈ allP p p0 p1 p2 (fits (wide p)), Pr p p0 p1 p2 w := fun w m => (mem_allP.mp m).1
  have hmem2 : ∀ w ∈ allP p p0 p1 p2 (fits fs), Pr p p0 p1 p2 w := fun w m => (mem_allP.mp m).1
  have hfil := P73.filter_all (p := p) (p0 := p0) (p1 := p1) (p2 := p2) (f := fits (wide p)) (g := fits fs) fun w hw => fits_wide hw
  have k40 : ∀ t (j : List Int), f_40 [VotesD p [p0, p1, p2] fs t] j = .ok (headD (allP p p0 p1 p2 (fits fs))) j := fun t j => c40 (by omega) b0.1
  have k41 : ∀ t (j : List Int), f_41 [VotesD p [p0, p1, p2] fs t] j = .ok (.int (allP p p0 p1 p2 (fits fs)).length) j := fun t j => c41 (by omega) b0.1
  generalize allP p p0 p1 p2 (fits (wide p)) = ws at *
  generalize allP p p0 p1 p2 (fits fs) = L at *
  unfold f_55
  rw [wp_def, m_55_cut]
  simp
  refine ⟨by omega, ?_⟩
  refine wp_lc Ti (fits fs) Ti (fun w m => ?_) ?_
  · simp [c46 (pr_six (hmem w m)), plan2, c50 cnt_len]
    rfl
  rw [hfil]
  unfold t_55_2
  simp [plan0, plan1, plan2]
  refine wp_mono (c31 hp (by unfold Sm; simp; omega) rfl hS hl3) ?_
  rintro d j' ⟨rfl, t, rfl⟩
  have kr : ∀ j : List Int, dRepr [.lst [headD L, .int (L.length : Nat)]] j = .ok (.str (txt (.lst [headD L, .int (L.length : Nat)]))) j := fun j => reprD_ok (prt_head hp.2 hmem2 hlen2) (by omega) (by decide)
  have tl := t55_4 (j := j') (p := p) (p0 := p0) (p1 := p1) (p2 := p2) (fs := fs) (t := t) (ws := ws) (L := L) (f := headD L) (s7 := .no) (s8 := .no) (s9 := .no) (s10 := .no) h hp hP' (fun w m => pr_six (hmem w m)) hlen (fun w m => pr_six (hmem2 w m)) hlen2
  refine ⟨rfl, ?_⟩
  rw [wp_neNil lay_Tis]
  unfold E55 at tl
  have fin : ∀ d, d = headD L → (wp (t_55_4 [.val .jar, .val (PlanD p p0 p1 p2 fs), .val (.lst (ws.map Ti)), .val (.lst (L.map Ti)), .val (VotesD p [p0, p1, p2] fs t), .val d, .val (.int (L.length : Nat)), .no, .no, .no, .no, .no, .no, .no, .no] j') fun f j1 => match f with
      | .rt d => Jar3 j1 ∧ d = .bl true
      | .rtF d => Jar3 j1 ∧ d = .bl true
      | .nx ρ => False
      | x => False) := fun d e => by
    subst e
    refine wp_mono tl ?_
    rintro f j1 ⟨hj, rfl⟩
    exact ⟨hj, rfl⟩
  cases L with
  | nil =>
    simp [headD] at kr fin k40
    simp [k40, k41, kr]
    exact fin
  | cons w L' =>
    simp [headD] at kr fin k40 k41
    simp [k40, k41, kr]
    exact fin
end Mir
set_option Elab.async false
set_option linter.all false
set_option maxRecDepth 100000
set_option maxHeartbeats 4000000
/-! K73k: the law of one jar. -/
namespace Mir
open PySem L2 PySem.Spec PyProof.Rows
open P73 (Pr allP mem_allP)
variable {j : List Int}
theorem wide_eq {p p0 p1 p2 : Int} : D.lst [.int p, Ti [p0, p1, p2], .tup [.tup [.int 0, .int p], .tup [.int 0, .int p], .tup [.int 0, .int p]]] = PlanD p p0 p1 p2 (wide p) := rfl
theorem c56 (h : Jar3 j) : wp (f_56 [.jar] j) fun d j' => Jar3 j' ∧ d = .bl true := by
  unfold f_56
  rw [wp_def]
  unfold m_56
  simp
  have r3 : rangeD 0 3 = (List.range 3).map (fun k => D.int (k : Nat)) := rfl
  rw [r3]
  obtain ⟨I, hI⟩ : ∃ I : List Nat → Mir.Env → List Int → Prop, ∀ r ρ j', I r ρ j' ↔ (Jar3 j' ∧ ∃ s1 s2, ρ = [.val .jar, s1, s2]) := ⟨_, fun _ _ _ => Iff.rfl⟩
  refine wp_forL _ I ((hI _ _ _).mpr ⟨h, _, _, rfl⟩) (fun k r ρ j1 h => ?_) fun ρ j1 h => ?_
  · obtain ⟨hj, s1, s2, rfl⟩ := (hI _ _ _).mp h
    have body : ∀ (n : Int) (jj : List Int), Jar3 jj → 0 ≤ n → n < 6 → ∀ {Q : D → List Int → Prop}, (∀ p p0 p1 p2 fs j', Jar3 j' → p ≤ 6 → 1 ≤ p → Plan p p0 p1 p2 fs → Q (PlanD p p0 p1 p2 fs) j') → wp (f_49 [.jar, .int (1 + n)] jj) Q := fun n jj hj n0 n1 Q hq => wp_plan hj (by omega) fun p0 p1 p2 fs j' hj' hP => hq _ _ _ _ _ _ hj' (by omega) (by omega) hP
    simp
    have fin : ∀ (p p0 p1 p2 : Int) (fs : List (Int × Int)) (j2 : List Int), Jar3 j2 → p ≤ 6 → 1 ≤ p → Plan p p0 p1 p2 fs → wp (f_55 [.jar, PlanD p p0 p1 p2 fs, .lst ((P73.trd p p0 p1 p2 (fits (wide p))).map Ti)] j2) fun d j' => Jar3 j' ∧ d = .bl true := fun p p0 p1 p2 fs j2 hj2 u1 u2 hP => by
      rw [← P73.all_trd]
      exact c55 hj2 (by omega) hP
    split
    · refine wp_draw hj (by omega) (by omega) fun n j2 hj2 n0 n1 => ?_
      simp
      refine body n j2 hj2 n0 n1 fun p p0 p1 p2 fs j3 hj3 u1 u2 hP => ?_
      simp [plan0, plan1, wide_eq, c51 (show 0 ≤ p ∧ p ≤ 6 by omega)]
      refine wp_mono (fin p p0 p1 p2 fs j3 hj3 u1 u2 hP) ?_
      rintro d j4 ⟨hj4, rfl⟩
      simp
      exact (hI _ _ _).mpr ⟨hj4, _, _, rfl⟩
    · refine wp_draw hj (by omega) (by omega) fun n j2 hj2 n0 n1 => ?_
      simp
      refine body n j2 hj2 n0 (by omega) fun p p0 p1 p2 fs j3 hj3 u1 u2 hP => ?_
      simp [plan0, plan1, wide_eq, c51 (show 0 ≤ p ∧ p ≤ 6 by omega)]
      refine wp_mono (fin p p0 p1 p2 fs j3 hj3 u1 u2 hP) ?_
      rintro d j4 ⟨hj4, rfl⟩
      simp
      exact (hI _ _ _).mpr ⟨hj4, _, _, rfl⟩
  · obtain ⟨hj, s1, s2, rfl⟩ := (hI _ _ _).mp h
    simp
    refine wp_draw hj (by omega) (by omega) fun x j2 hj2 x0 x1 => ?_
    simp
    have fin : ∀ (n : Int) (j3 : List Int), Jar3 j3 → 0 ≤ n → n < 60 → wp (f_49 [.jar, .int (1 + n)] j3) fun d j' => ∃ p p0 p1 p2 fs, d = PlanD p p0 p1 p2 fs ∧ Jar3 j' ∧ 1 ≤ p ∧ p ≤ 60 ∧ Plan p p0 p1 p2 fs := fun n j3 hj3 n0 n1 => wp_plan hj3 (by omega) fun p0 p1 p2 fs j' hj' hP => ⟨_, _, _, _, _, rfl, hj', by omega, by omega, hP⟩
    split
    · refine wp_draw hj2 (by omega) (by omega) fun n j3 hj3 n0 n1 => ?_
      simp
      refine wp_mono (fin n j3 hj3 n0 (by omega)) ?_
      rintro d j4 ⟨p, p0, p1, p2, fs, rfl, hj4, u1, u2, hP⟩
      simp [plan0, plan1, wide_eq, c52 (show 0 ≤ p ∧ p ≤ 60 by omega) hP.1.1 hP.2.1.1 hP.2.2.1.1]
      refine wp_mono (c55 hj4 ⟨u1, u2⟩ hP) ?_
      rintro d j5 ⟨hj5, rfl⟩
      exact ⟨hj5, rfl⟩
    · refine wp_draw hj2 (by omega) (by omega) fun n j3 hj3 n0 n1 => ?_
      simp
      refine wp_mono (fin n j3 hj3 n0 (by omega)) ?_
      rintro d j4 ⟨p, p0, p1, p2, fs, rfl, hj4, u1, u2, hP⟩
      simp [plan0, plan1, wide_eq, c52 (show 0 ≤ p ∧ p ≤ 60 by omega) hP.1.1 hP.2.1.1 hP.2.2.1.1]
      refine wp_mono (c55 hj4 ⟨u1, u2⟩ hP) ?_
      rintro d j5 ⟨hj5, rfl⟩
      exact ⟨hj5, rfl⟩
end Mir
set_option Elab.async false
set_option linter.all false
set_option maxRecDepth 100000
set_option maxHeartbeats 4000000
/-! Pk73: the jar and the law. -/
namespace Mir
open PySem L2 PySem.Spec PyProof.Rows
variable {j : List Int}
def b_43_3 : Mir.Env → M Fl := (mSeq (mSet 3 (mBin dMod (mCl dInt (mCons (mBin dAdd (mBin dMul (mVar .look 3) (mC (.int 36007))) (mCl dInt (mCons (mVar .look 4) mNil))) mNil)) (mC (.int 2147483423)))) mNext)
def t_43_1 : Mir.Env → M Fl := (mSeq (mSet 3 (mBin dAdd (mC (.int 510007)) (mBin dMul (mC (.int 877)) (mVar .look 1)))) (mSeq (mFor (mSeqA (mBin dAdd (mSl (mVar .look 0) mNo (mYesI (mC (.int 40)))) (mLst (mCons (mVar .keep 2) mNil)))) (gN 4) b_43_3) (mSeq (mRetF (mLst (mCons (mIfE (mOr (mAsB (mBin dLt (mVar .look 2) (mC (.int 0)))) (mAsB (mBin dGe (mVar .look 2) (mBin dPow (mC (.int 10)) (mC (.int 18)))))) (mCl dAbs (mCons (mVar .look 2) mNil)) (mC (.int 0))) (mCons (mVar .keep 3) (mCons (mC (.int 0)) mNil))))) mNext)))
theorem m_43_cut : m_43 = (mSeq (mSet 2 (mIfE (mAsB (mBin dLt (mVar .look 1) (mCl dLen (mCons (mVar .look 0) mNil)))) (mCl dInt (mCons (mBin dIx (mVar .look 0) (mVar .look 1)) mNil)) (mBin dAdd (mBin dMul (mC (.int 6101)) (mVar .look 1)) (mC (.int 211))))) t_43_1) := rfl
theorem well_rest (ns : List Int) (t : Nat) (o : Int) (j : List Int) : wp (t_43_1 [.val (.scr ns), .val (.int (t : Nat)), .val (.int o), .no, .no] j) fun f j' => j' = j ∧ ∃ ms, Jar3 ms ∧ f = .rtF (.lst (ms.map .int)) := by
  unfold t_43_1
  simp
  have hc : (cutD (ns.map D.int) none (some 40)).length ≤ 40 := by
    rw [cut_ints, List.length_map]
    have q : HT.sIx ns.length ns.length (some 40) = min 40 ns.length := HT.sIx_nat ns.length ns.length 40
    rw [List.length_take, List.length_drop, q]
    omega
  refine ⟨by omega, ?_⟩
  rw [cut_ints, show ([D.int o] : List D) = [o].map D.int from rfl, ← List.map_append]
  obtain ⟨I, hI⟩ : ∃ I : List Int → Mir.Env → List Int → Prop, ∀ r ρ j', I r ρ j' ↔ (j' = j ∧ ∃ m s, ρ = [.val (.scr ns), .val (.int (t : Nat)), .val (.int o), .val (.int m), s] ∧ (0 ≤ m ∧ m < 2147483423 ∨ r ≠ [])) := ⟨_, fun _ _ _ => Iff.rfl⟩
  refine wp_forL D.int I ((hI _ _ _).mpr ⟨rfl, _, _, rfl, .inr (by simp)⟩) (fun x r ρ j1 h => ?_) fun ρ j1 h => ?_
  · obtain ⟨rfl, m, s, rfl, hm⟩ := (hI _ _ _).mp h
    unfold b_43_3
    simp
    exact (hI _ _ _).mpr ⟨rfl, _, _, rfl, .inl ⟨Int.emod_nonneg _ (by omega), Int.emod_lt_of_pos _ (by omega)⟩⟩
  · obtain ⟨rfl, m, s, rfl, hm⟩ := (hI _ _ _).mp h
    have hm : 0 ≤ m ∧ m < 2147483423 := hm.elim id fun z => absurd rfl z
    simp
    split
    · exact ⟨[-o, m, 0], ⟨_, _, _, rfl, by omega, hm.1, hm.2⟩, rfl⟩
    · split
      · exact ⟨[o, m, 0], ⟨_, _, _, rfl, by omega, hm.1, hm.2⟩, rfl⟩
      · exact ⟨[0, m, 0], ⟨_, _, _, rfl, by omega, hm.1, hm.2⟩, rfl⟩
theorem well_out (ns : List Int) (t : Nat) (j : List Int) : wp (f_43 [.scr ns, .int (t : Nat)] j) fun d j' => j' = j ∧ ∃ ms, Jar3 ms ∧ d = .lst (ms.map .int) := by
  unfold f_43
  rw [wp_defF, m_43_cut]
  have fin : ∀ o : Int, wp (t_43_1 [.val (.scr ns), .val (.int (t : Nat)), .val (.int o), .no, .no] j) fun f j1 => match f with
      | .rt d => isMut d = false ∧ j1 = j ∧ ∃ ms, Jar3 ms ∧ d = .lst (ms.map .int)
      | .rtF d => j1 = j ∧ ∃ ms, Jar3 ms ∧ d = .lst (ms.map .int)
      | .nx _ => j1 = j ∧ ∃ ms, Jar3 ms ∧ D.non = .lst (ms.map .int)
      | _ => False := fun o => wp_mono (well_rest ns t o j) (by
    rintro f j1 ⟨rfl, ms, hms, rfl⟩
    exact ⟨rfl, ms, hms, rfl⟩)
  simp
  simp at fin
  split
  · rename_i h
    have e : wp (dIx (.scr ns) (.int (t : Nat)) j) fun d j' => d = .int ns[t] ∧ j' = j := by
      show wp (atD (ns.map D.int) (t : Nat) j) _
      rw [own_at ns t j h]
      exact ⟨rfl, rfl⟩
    rw [of_wp e]
    simp
    exact fin _
  · exact fin _
theorem law_plain : ∀ ns : List Int, ns.length ≤ 63 → ∃ j, f_57 [.scr ns] [] = .ok (.bl true) j := fun ns _ => by
  have e2 := law_lc (n := 2) (P := Jar3) (fP := f_43) (fR := f_56) (fun ms t j ht => by
      obtain ⟨d, j', e, rfl, ms', hms, rfl⟩ := wp_ex (well_out ms t j)
      exact ⟨ms', hms, e⟩) (fun ms h => by
      obtain ⟨d, j', e, _, rfl⟩ := wp_ex (c56 h)
      exact ⟨j', e⟩) ns .no [] 2 0 (by omega)
  have e1 : mRng1 (mC (.int 2)) (envOf 2 [.scr ns]) [] = .ok ((List.range' 0 2).map fun i => D.int (i : Nat)) [] := rfl
  have e3 : mComp [1] (mRng1 (mC (.int 2))) (gN 1) mYes (mCallJ f_56 (mCall 2 f_43 (mCons (mVar .keep 0) (mCons (mVar .keep 1) mNil)))) (envOf 2 [.scr ns]) [] = .ok (.lst (List.replicate 2 (D.bl true))) [] := by
    unfold mComp
    rw [bnd_ok e1, need_pos (by decide)]
    show bnd (mLcL _ _ _ _ [.val (.scr ns), .no]) _ [] = _
    rw [bnd_ok e2]; rfl
  exact ⟨[], mDef_rt (mSeq_rt (mRet_ok ((mCl_ok (mCons_ok e3 mNil_ok)).trans rfl)))⟩
end Mir
set_option Elab.async false
set_option linter.all false
set_option maxRecDepth 100000
set_option maxHeartbeats 0
namespace Mir
open PySem L2 PySem.Spec PyProof.Rows
/-! ### the head -/
def cn : List Str := ["WrongValue", "InvalidText", "InvalidPeople", "InvalidPairs", "NotVotes", "InvalidFirsts", "Votes"]
def an : List Str := ["given", "given", "given", "given", "given", "given", "given"]
def dsL_0 : List DefM := [⟨.g "_law_draw", "_law_draw", "_law_draw", (top 44)⟩, ⟨.g "_law_profile", "_law_profile", "_law_profile", (top 47)⟩, ⟨.g "_law_counted", "_law_counted", "_law_counted", (top 46)⟩, ⟨.g "_law_around", "_law_around", "_law_around", (top 48)⟩, ⟨.g "_law_plan", "_law_plan", "_law_plan", (top 49)⟩, ⟨.g "_law_is_in", "_law_is_in", "_law_is_in", (top 50)⟩, ⟨.g "is_integer", "is_integer", "is_integer", (top 11)⟩, ⟨.g "is_within", "is_within", "is_within", (top 12)⟩, ⟨.g "check_people_to", "check_people_to", "check_people_to", (top 25)⟩, ⟨.g "is_natural", "is_natural", "is_natural", (top 13)⟩, ⟨.g "is_tuple_of", "is_tuple_of", "is_tuple_of", (top 14)⟩, ⟨.g "are_naturals", "are_naturals", "are_naturals", (top 15)⟩, ⟨.g "is_stretch", "is_stretch", "is_stretch", (top 20)⟩, ⟨.g "check_firsts", "check_firsts", "check_firsts", (top 29)⟩, ⟨.g "written_stretch", "written_stretch", "written_stretch", (top 22)⟩, ⟨.g "numbers_text", "numbers_text", "numbers_text", (top 18)⟩, ⟨.m "Votes" "__init__", "__init__", "Votes.__init__", (inClass (top 31) 0)⟩, ⟨.g "check_votes", "check_votes", "check_votes", (top 30)⟩, ⟨.p "Votes" "pairs", "pairs", "Votes.pairs", (inClass (top 31) 3)⟩, ⟨.p "Votes" "people", "people", "Votes.people", (inClass (top 31) 2)⟩]
def dsL_1 : List DefM := [⟨.g "profile_with", "profile_with", "profile_with", (top 38)⟩, ⟨.g "lies_in", "lies_in", "lies_in", (top 21)⟩, ⟨.g "are_within", "are_within", "are_within", (top 36)⟩, ⟨.p "Votes" "firsts", "firsts", "Votes.firsts", (inClass (top 31) 4)⟩, ⟨.g "firsts_of", "firsts_of", "firsts_of", (top 34)⟩, ⟨.g "all_profiles", "all_profiles", "all_profiles", (top 39)⟩, ⟨.g "profiles_number", "profiles_number", "profiles_number", (top 41)⟩, ⟨.g "first_profile", "first_profile", "first_profile", (top 40)⟩, ⟨.g "_law_of", "_law_of", "_law_of", (top 45)⟩, ⟨.g "_law_bent", "_law_bent", "_law_bent", (top 54)⟩, ⟨.g "_law_is_one", "_law_is_one", "_law_is_one", (top 53)⟩, ⟨.g "pairs_of", "pairs_of", "pairs_of", (top 33)⟩, ⟨.g "is_profile", "is_profile", "is_profile", (top 37)⟩, ⟨.g "_law_told_right", "_law_told_right", "_law_told_right", (top 55)⟩, ⟨.g "_law_tried", "_law_tried", "_law_tried", (top 51)⟩, ⟨.g "_law_rings", "_law_rings", "_law_rings", (top 52)⟩, ⟨.g "_law_right", "_law_right", "_law_right", (top 56)⟩, ⟨.g "_law_well", "_law_well", "_law_well", (top 43)⟩, ⟨.g "law", "law", "law", (top 57)⟩]
def dsL : List DefM := dsL_0 ++ dsL_1
def fsL_0 : List Ft := [.free "abs", .free "all", .free "bool", .free "divmod", .free "enumerate", .free "int", .free "isinstance", .free "len", .free "list", .free "max", .free "min", .free "range", .free "repr", .free "str", .free "sum", .free "tuple", .free "zip", .ins "Votes", .notb "Votes" .bool, .notb "Votes" .int]
def fsL_1 : List Ft := [.notb "Votes" .tup, .con "MOST_NUMBER" (.int 4000), .con "MOST_VOTERS" (.int 60), .con "NAMES" (.tup [(.str "a"), (.str "b"), (.str "c")]), .con "ORDERS" (.tup [(.str "abc"), (.str "acb"), (.str "bac"), (.str "bca"), (.str "cab"), (.str "cba")]), .glo "Votes", .nott "Votes", .isc "Votes" "Votes" true, .cls "Votes", .mk "Votes", .noat "Votes" "own_firsts", .noat "Votes" "own_pairs", .noat "Votes" "own_people", .noat "Votes" "own_text", .noat "Votes" "own_voters", .prop "Votes" "firsts", .prop "Votes" "pairs", .prop "Votes" "people", .glo "_law_draw", .glo "_law_profile"]
def fsL_2 : List Ft := [.glo "_law_counted", .glo "_law_around", .glo "_law_plan", .glo "_law_is_in", .glo "is_integer", .glo "is_within", .glo "check_people_to", .glo "is_natural", .glo "is_tuple_of", .glo "are_naturals", .glo "is_stretch", .glo "check_firsts", .glo "written_stretch", .glo "numbers_text", .glo "check_votes", .glo "profile_with", .glo "lies_in", .glo "are_within", .glo "firsts_of", .glo "all_profiles"]
def fsL_3 : List Ft := [.glo "profiles_number", .glo "first_profile", .glo "_law_of", .glo "_law_bent", .glo "_law_is_one", .glo "pairs_of", .glo "is_profile", .glo "_law_told_right", .glo "_law_tried", .glo "_law_rings", .glo "_law_right", .glo "_law_well", .glo "law"]
def fsL : List Ft := fsL_0 ++ fsL_1 ++ fsL_2 ++ fsL_3
def tsL : List (Str × List Str) := []
def looseL_0 : List Str := ["__name__", "WrongValue", "InvalidText", "InvalidPeople", "InvalidPairs", "NotVotes", "InvalidFirsts", "MOST_NUMBER", "MOST_VOTERS", "DIGITS", "is_integer", "is_within", "is_natural", "is_tuple_of", "are_naturals", "written_natural", "written_naturals", "numbers_text", "is_stretch", "lies_in"]
def looseL_1 : List Str := ["written_stretch", "stretch_told", "check_people_to", "ORDERS", "NAMES", "check_firsts", "check_votes", "Votes", "votes_told", "pairs_of", "firsts_of", "are_within", "is_profile", "profile_with", "all_profiles", "first_profile", "profiles_number", "_law_well", "_law_draw", "_law_of"]
def looseL_2 : List Str := ["_law_counted", "_law_profile", "_law_around", "_law_plan", "_law_is_in", "_law_tried", "_law_rings", "_law_is_one", "_law_bent", "_law_told_right", "_law_right"]
def looseL : List Str := looseL_0 ++ looseL_1 ++ looseL_2
abbrev RL : PySem.W.OpenRow := PySem.W.OpenLaw.row PySem.Challenge.rw_toldtallies_k73_whole_profiles_by_trying
abbrev hk : PySem.W.Hook := hookM 5 fsL dsL tsL
def ob (s : PySem.W.SharedT) : AlM := obsMG 5 fsL dsL tsL (HandSHeadRun.getT s)
theorem ob_eq (s : PySem.W.SharedT) : ob s = hk.obs s.abs := obsMG_eq (HandSHeadRun.getT_eq s)
theorem run_false (w : World) : HandSHeadRun.RunEq RL (PySem.W.view RL.prog [57]) hk ob 20000 looseL (w.withFollow "special-get-raises" false) := by
  intro os
  kernel_rfl
theorem run_true (w : World) : HandSHeadRun.RunEq RL (PySem.W.view RL.prog [57]) hk ob 20000 looseL (w.withFollow "special-get-raises" true) := by
  intro os
  kernel_rfl
theorem run (w : World) : HandSHeadRun.RunEq RL (PySem.W.view RL.prog [57]) hk ob 20000 looseL w :=
  PySem.W.byRow2 "special-get-raises" (P := fun w => HandSHeadRun.RunEq RL (PySem.W.view RL.prog [57]) hk ob 20000 looseL w) run_false run_true w
def d0 : DefM := ⟨.g "", "", "", .Pass ⟨0, 0, 0, 0⟩⟩
def faL (K : PySem.W.Frag) (i : Nat) : Addr := (dsL.getD i d0).ad K
def fdL (K : PySem.W.Frag) (i : Nat) : FuncData := fdOf K (faL K i)
theorem txtAll {w : World} {K : PySem.W.Frag} {h : Heap} {mg : Str → Option Value} (X : K.In h) (G : h.Ns mainGlobals mg) (s : SaysM fsL dsL tsL w K) : Txt (ctxM K cn an) K w mg (faL K) (fdL K) := by
  have h_n_abs : mg "abs" = none := Ft.free_ok X G (s.fact 0 rfl)
  have h_n_all : mg "all" = none := Ft.free_ok X G (s.fact 1 rfl)
  have h_n_bool : mg "bool" = none := Ft.free_ok X G (s.fact 2 rfl)
  have h_n_divmod : mg "divmod" = none := Ft.free_ok X G (s.fact 3 rfl)
  have h_n_enumerate : mg "enumerate" = none := Ft.free_ok X G (s.fact 4 rfl)
  have h_n_int : mg "int" = none := Ft.free_ok X G (s.fact 5 rfl)
  have h_n_isinstance : mg "isinstance" = none := Ft.free_ok X G (s.fact 6 rfl)
  have h_n_len : mg "len" = none := Ft.free_ok X G (s.fact 7 rfl)
  have h_n_list : mg "list" = none := Ft.free_ok X G (s.fact 8 rfl)
  have h_n_max : mg "max" = none := Ft.free_ok X G (s.fact 9 rfl)
  have h_n_min : mg "min" = none := Ft.free_ok X G (s.fact 10 rfl)
  have h_n_range : mg "range" = none := Ft.free_ok X G (s.fact 11 rfl)
  have h_n_repr : mg "repr" = none := Ft.free_ok X G (s.fact 12 rfl)
  have h_n_str : mg "str" = none := Ft.free_ok X G (s.fact 13 rfl)
  have h_n_sum : mg "sum" = none := Ft.free_ok X G (s.fact 14 rfl)
  have h_n_tuple : mg "tuple" = none := Ft.free_ok X G (s.fact 15 rfl)
  have h_n_zip : mg "zip" = none := Ft.free_ok X G (s.fact 16 rfl)
  have h_k_bool : ∀ k ∈ known, NotB (ctxM K cn an) .bool k := fun k hk => (List.mem_cons.mp hk).elim (fun e => by subst e; exact Ft.notb_ok (s.fact 17 rfl) (s.fact 18 rfl) rfl) (fun h => (nomatch h))
  have h_k_int : ∀ k ∈ known, NotB (ctxM K cn an) .int k := fun k hk => (List.mem_cons.mp hk).elim (fun e => by subst e; exact Ft.notb_ok (s.fact 17 rfl) (s.fact 19 rfl) rfl) (fun h => (nomatch h))
  have h_k_tuple : ∀ k ∈ known, NotB (ctxM K cn an) .tup k := fun k hk => (List.mem_cons.mp hk).elim (fun e => by subst e; exact Ft.notb_ok (s.fact 17 rfl) (s.fact 20 rfl) rfl) (fun h => (nomatch h))
  have h_c_MOST_NUMBER : GRep (ctxM K cn an) mg "MOST_NUMBER" (.int 4000) := Ft.con_ok (c := ctxM K cn an) X G (s.fact 21 rfl)
  have h_c_MOST_VOTERS : GRep (ctxM K cn an) mg "MOST_VOTERS" (.int 60) := Ft.con_ok (c := ctxM K cn an) X G (s.fact 22 rfl)
  have h_c_NAMES : GRep (ctxM K cn an) mg "NAMES" (.tup [(.str "a"), (.str "b"), (.str "c")]) := Ft.con_ok (c := ctxM K cn an) X G (s.fact 23 rfl)
  have h_c_ORDERS : GRep (ctxM K cn an) mg "ORDERS" (.tup [(.str "abc"), (.str "acb"), (.str "bac"), (.str "bca"), (.str "cab"), (.str "cba")]) := Ft.con_ok (c := ctxM K cn an) X G (s.fact 24 rfl)
  have h_i_Votes : mg "Votes" = some (.ref ((ctxM K cn an).cls 6)) ∧ ClsI (ctxM K cn an) 6 known := ⟨Ft.glo_ok X G (s.fact 25 rfl), ⟨fun t => Ft.nott_ok (c := ctxM K cn an) (k := 6) (s.fact 26 rfl) rfl t, fun k hk => (List.mem_cons.mp hk).elim (fun e => by subst e; exact ⟨Ft.ins_ok (s.fact 17 rfl) rfl, Ft.isc_ok (s.fact 27 rfl)⟩) (fun h => (nomatch h))⟩⟩
  have h_cl_Votes : Cls K ((ctxM K cn an).cls 6) := Ft.cls_ok (s.fact 28 rfl)
  have h_x_Votes : mg "Votes" = some (.ref ((ctxM K cn an).cls 6)) := Ft.glo_ok X G (s.fact 25 rfl)
  have h_mk_Votes : Mk K ((ctxM K cn an).cls 6) (faL K 16) := Ft.mk_ok (s.fact 29 rfl)
  have h_fl_own_firsts : FldT (ctxM K cn an) known "own_firsts" := fun k hk => (List.mem_cons.mp hk).elim (fun e => by subst e; exact ⟨Ft.cls_ok (s.fact 28 rfl), Ft.noat_ok (s.fact 30 rfl)⟩) (fun h => (nomatch h))
  have h_fl_own_pairs : FldT (ctxM K cn an) known "own_pairs" := fun k hk => (List.mem_cons.mp hk).elim (fun e => by subst e; exact ⟨Ft.cls_ok (s.fact 28 rfl), Ft.noat_ok (s.fact 31 rfl)⟩) (fun h => (nomatch h))
  have h_fl_own_people : FldT (ctxM K cn an) known "own_people" := fun k hk => (List.mem_cons.mp hk).elim (fun e => by subst e; exact ⟨Ft.cls_ok (s.fact 28 rfl), Ft.noat_ok (s.fact 32 rfl)⟩) (fun h => (nomatch h))
  have h_fl_own_text : FldT (ctxM K cn an) known "own_text" := fun k hk => (List.mem_cons.mp hk).elim (fun e => by subst e; exact ⟨Ft.cls_ok (s.fact 28 rfl), Ft.noat_ok (s.fact 33 rfl)⟩) (fun h => (nomatch h))
  have h_fl_own_voters : FldT (ctxM K cn an) known "own_voters" := fun k hk => (List.mem_cons.mp hk).elim (fun e => by subst e; exact ⟨Ft.cls_ok (s.fact 28 rfl), Ft.noat_ok (s.fact 34 rfl)⟩) (fun h => (nomatch h))
  have h_p_31_4 : ∃ p, PropOf K ((ctxM K cn an).cls 6) "firsts" p (faL K 23) := Ft.prop_ok (s.fact 35 rfl)
  have h_p_31_3 : ∃ p, PropOf K ((ctxM K cn an).cls 6) "pairs" p (faL K 18) := Ft.prop_ok (s.fact 36 rfl)
  have h_p_31_2 : ∃ p, PropOf K ((ctxM K cn an).cls 6) "people" p (faL K 19) := Ft.prop_ok (s.fact 37 rfl)
  have h_kw_37_0_value_votes : KwT K (fdL K 32) ["votes", "value"] ["value", "votes"] 0 [1, 0] := kwT_of (s.def_ 32 rfl) fun _ _ _ _ _ _ us ws h1 h2 => match us, ws, h1, h2 with | [], [_, _], _, _ => rfl
  have h_kw_40_0_votes : KwT K (fdL K 27) ["votes"] ["votes"] 0 [0] := kwT_of (s.def_ 27 rfl) fun _ _ _ _ _ _ us ws h1 h2 => match us, ws, h1, h2 with | [], [_], _, _ => rfl
  have h_kw_41_0_votes : KwT K (fdL K 26) ["votes"] ["votes"] 0 [0] := kwT_of (s.def_ 26 rfl) fun _ _ _ _ _ _ us ws h1 h2 => match us, ws, h1, h2 with | [], [_], _, _ => rfl
  have h_d_44 : DefT K mg "_law_draw" "_law_draw" (top 44) ["well", "top"] (faL K 0) (fdL K 0) := ⟨Ft.glo_ok X G (s.fact 38 rfl), (s.def_ 0 rfl).kp, s.def_ 0 rfl, (s.def_ 0 rfl).binds fun _ _ _ _ _ _ us hl => match us, hl with | [_, _], _ => rfl⟩
  have h_d_47 : DefT K mg "_law_profile" "_law_profile" (top 47) ["well", "people"] (faL K 1) (fdL K 1) := ⟨Ft.glo_ok X G (s.fact 39 rfl), (s.def_ 1 rfl).kp, s.def_ 1 rfl, (s.def_ 1 rfl).binds fun _ _ _ _ _ _ us hl => match us, hl with | [_, _], _ => rfl⟩
  have h_d_46 : DefT K mg "_law_counted" "_law_counted" (top 46) ["profile"] (faL K 2) (fdL K 2) := ⟨Ft.glo_ok X G (s.fact 40 rfl), (s.def_ 2 rfl).kp, s.def_ 2 rfl, (s.def_ 2 rfl).binds fun _ _ _ _ _ _ us hl => match us, hl with | [_], _ => rfl⟩
  have h_d_48 : DefT K mg "_law_around" "_law_around" (top 48) ["well", "own", "people"] (faL K 3) (fdL K 3) := ⟨Ft.glo_ok X G (s.fact 41 rfl), (s.def_ 3 rfl).kp, s.def_ 3 rfl, (s.def_ 3 rfl).binds fun _ _ _ _ _ _ us hl => match us, hl with | [_, _, _], _ => rfl⟩
  have h_d_49 : DefT K mg "_law_plan" "_law_plan" (top 49) ["well", "people"] (faL K 4) (fdL K 4) := ⟨Ft.glo_ok X G (s.fact 42 rfl), (s.def_ 4 rfl).kp, s.def_ 4 rfl, (s.def_ 4 rfl).binds fun _ _ _ _ _ _ us hl => match us, hl with | [_, _], _ => rfl⟩
  have h_d_50 : DefT K mg "_law_is_in" "_law_is_in" (top 50) ["numbers", "stretches"] (faL K 5) (fdL K 5) := ⟨Ft.glo_ok X G (s.fact 43 rfl), (s.def_ 5 rfl).kp, s.def_ 5 rfl, (s.def_ 5 rfl).binds fun _ _ _ _ _ _ us hl => match us, hl with | [_, _], _ => rfl⟩
  have h_d_11 : DefT K mg "is_integer" "is_integer" (top 11) ["value"] (faL K 6) (fdL K 6) := ⟨Ft.glo_ok X G (s.fact 44 rfl), (s.def_ 6 rfl).kp, s.def_ 6 rfl, (s.def_ 6 rfl).binds fun _ _ _ _ _ _ us hl => match us, hl with | [_], _ => rfl⟩
  have h_d_12 : DefT K mg "is_within" "is_within" (top 12) ["value", "least", "greatest"] (faL K 7) (fdL K 7) := ⟨Ft.glo_ok X G (s.fact 45 rfl), (s.def_ 7 rfl).kp, s.def_ 7 rfl, (s.def_ 7 rfl).binds fun _ _ _ _ _ _ us hl => match us, hl with | [_, _, _], _ => rfl⟩
  have h_d_25 : DefT K mg "check_people_to" "check_people_to" (top 25) ["value", "most"] (faL K 8) (fdL K 8) := ⟨Ft.glo_ok X G (s.fact 46 rfl), (s.def_ 8 rfl).kp, s.def_ 8 rfl, (s.def_ 8 rfl).binds fun _ _ _ _ _ _ us hl => match us, hl with | [_, _], _ => rfl⟩
  have h_d_13 : DefT K mg "is_natural" "is_natural" (top 13) ["value"] (faL K 9) (fdL K 9) := ⟨Ft.glo_ok X G (s.fact 47 rfl), (s.def_ 9 rfl).kp, s.def_ 9 rfl, (s.def_ 9 rfl).binds fun _ _ _ _ _ _ us hl => match us, hl with | [_], _ => rfl⟩
  have h_d_14 : DefT K mg "is_tuple_of" "is_tuple_of" (top 14) ["value", "many"] (faL K 10) (fdL K 10) := ⟨Ft.glo_ok X G (s.fact 48 rfl), (s.def_ 10 rfl).kp, s.def_ 10 rfl, (s.def_ 10 rfl).binds fun _ _ _ _ _ _ us hl => match us, hl with | [_, _], _ => rfl⟩
  have h_d_15 : DefT K mg "are_naturals" "are_naturals" (top 15) ["value", "many"] (faL K 11) (fdL K 11) := ⟨Ft.glo_ok X G (s.fact 49 rfl), (s.def_ 11 rfl).kp, s.def_ 11 rfl, (s.def_ 11 rfl).binds fun _ _ _ _ _ _ us hl => match us, hl with | [_, _], _ => rfl⟩
  have h_d_20 : DefT K mg "is_stretch" "is_stretch" (top 20) ["value"] (faL K 12) (fdL K 12) := ⟨Ft.glo_ok X G (s.fact 50 rfl), (s.def_ 12 rfl).kp, s.def_ 12 rfl, (s.def_ 12 rfl).binds fun _ _ _ _ _ _ us hl => match us, hl with | [_], _ => rfl⟩
  have h_d_29 : DefT K mg "check_firsts" "check_firsts" (top 29) ["value"] (faL K 13) (fdL K 13) := ⟨Ft.glo_ok X G (s.fact 51 rfl), (s.def_ 13 rfl).kp, s.def_ 13 rfl, (s.def_ 13 rfl).binds fun _ _ _ _ _ _ us hl => match us, hl with | [_], _ => rfl⟩
  have h_d_22 : DefT K mg "written_stretch" "written_stretch" (top 22) ["stretch"] (faL K 14) (fdL K 14) := ⟨Ft.glo_ok X G (s.fact 52 rfl), (s.def_ 14 rfl).kp, s.def_ 14 rfl, (s.def_ 14 rfl).binds fun _ _ _ _ _ _ us hl => match us, hl with | [_], _ => rfl⟩
  have h_d_18 : DefT K mg "numbers_text" "numbers_text" (top 18) ["numbers"] (faL K 15) (fdL K 15) := ⟨Ft.glo_ok X G (s.fact 53 rfl), (s.def_ 15 rfl).kp, s.def_ 15 rfl, (s.def_ 15 rfl).binds fun _ _ _ _ _ _ us hl => match us, hl with | [_], _ => rfl⟩
  have h_d_31_0 : MefT K "__init__" "Votes.__init__" (inClass (top 31) 0) ["self", "people", "pairs", "firsts"] (faL K 16) (fdL K 16) := ⟨s.def_ 16 rfl, (s.def_ 16 rfl).binds fun _ _ _ _ _ _ us hl => match us, hl with | [_, _, _, _], _ => rfl⟩
  have h_d_30 : DefT K mg "check_votes" "check_votes" (top 30) ["value"] (faL K 17) (fdL K 17) := ⟨Ft.glo_ok X G (s.fact 54 rfl), (s.def_ 17 rfl).kp, s.def_ 17 rfl, (s.def_ 17 rfl).binds fun _ _ _ _ _ _ us hl => match us, hl with | [_], _ => rfl⟩
  have h_d_31_3 : MefT K "pairs" "Votes.pairs" (inClass (top 31) 3) ["self"] (faL K 18) (fdL K 18) := ⟨s.def_ 18 rfl, (s.def_ 18 rfl).binds fun _ _ _ _ _ _ us hl => match us, hl with | [_], _ => rfl⟩
  have h_d_31_2 : MefT K "people" "Votes.people" (inClass (top 31) 2) ["self"] (faL K 19) (fdL K 19) := ⟨s.def_ 19 rfl, (s.def_ 19 rfl).binds fun _ _ _ _ _ _ us hl => match us, hl with | [_], _ => rfl⟩
  have h_d_38 : DefT K mg "profile_with" "profile_with" (top 38) ["votes", "abc", "acb"] (faL K 20) (fdL K 20) := ⟨Ft.glo_ok X G (s.fact 55 rfl), (s.def_ 20 rfl).kp, s.def_ 20 rfl, (s.def_ 20 rfl).binds fun _ _ _ _ _ _ us hl => match us, hl with | [_, _, _], _ => rfl⟩
  have h_d_21 : DefT K mg "lies_in" "lies_in" (top 21) ["value", "stretch"] (faL K 21) (fdL K 21) := ⟨Ft.glo_ok X G (s.fact 56 rfl), (s.def_ 21 rfl).kp, s.def_ 21 rfl, (s.def_ 21 rfl).binds fun _ _ _ _ _ _ us hl => match us, hl with | [_, _], _ => rfl⟩
  have h_d_36 : DefT K mg "are_within" "are_within" (top 36) ["numbers", "stretches"] (faL K 22) (fdL K 22) := ⟨Ft.glo_ok X G (s.fact 57 rfl), (s.def_ 22 rfl).kp, s.def_ 22 rfl, (s.def_ 22 rfl).binds fun _ _ _ _ _ _ us hl => match us, hl with | [_, _], _ => rfl⟩
  have h_d_31_4 : MefT K "firsts" "Votes.firsts" (inClass (top 31) 4) ["self"] (faL K 23) (fdL K 23) := ⟨s.def_ 23 rfl, (s.def_ 23 rfl).binds fun _ _ _ _ _ _ us hl => match us, hl with | [_], _ => rfl⟩
  have h_d_34 : DefT K mg "firsts_of" "firsts_of" (top 34) ["profile"] (faL K 24) (fdL K 24) := ⟨Ft.glo_ok X G (s.fact 58 rfl), (s.def_ 24 rfl).kp, s.def_ 24 rfl, (s.def_ 24 rfl).binds fun _ _ _ _ _ _ us hl => match us, hl with | [_], _ => rfl⟩
  have h_d_39 : DefT K mg "all_profiles" "all_profiles" (top 39) ["votes"] (faL K 25) (fdL K 25) := ⟨Ft.glo_ok X G (s.fact 59 rfl), (s.def_ 25 rfl).kp, s.def_ 25 rfl, (s.def_ 25 rfl).binds fun _ _ _ _ _ _ us hl => match us, hl with | [_], _ => rfl⟩
  have h_d_41 : DefT K mg "profiles_number" "profiles_number" (top 41) ["votes"] (faL K 26) (fdL K 26) := ⟨Ft.glo_ok X G (s.fact 60 rfl), (s.def_ 26 rfl).kp, s.def_ 26 rfl, (s.def_ 26 rfl).binds fun _ _ _ _ _ _ us hl => match us, hl with | [_], _ => rfl⟩
  have h_d_40 : DefT K mg "first_profile" "first_profile" (top 40) ["votes"] (faL K 27) (fdL K 27) := ⟨Ft.glo_ok X G (s.fact 61 rfl), (s.def_ 27 rfl).kp, s.def_ 27 rfl, (s.def_ 27 rfl).binds fun _ _ _ _ _ _ us hl => match us, hl with | [_], _ => rfl⟩
  have h_d_45 : DefT K mg "_law_of" "_law_of" (top 45) ["well", "menu"] (faL K 28) (fdL K 28) := ⟨Ft.glo_ok X G (s.fact 62 rfl), (s.def_ 28 rfl).kp, s.def_ 28 rfl, (s.def_ 28 rfl).binds fun _ _ _ _ _ _ us hl => match us, hl with | [_, _], _ => rfl⟩
  have h_d_54 : DefT K mg "_law_bent" "_law_bent" (top 54) ["well", "profile"] (faL K 29) (fdL K 29) := ⟨Ft.glo_ok X G (s.fact 63 rfl), (s.def_ 29 rfl).kp, s.def_ 29 rfl, (s.def_ 29 rfl).binds fun _ _ _ _ _ _ us hl => match us, hl with | [_, _], _ => rfl⟩
  have h_d_53 : DefT K mg "_law_is_one" "_law_is_one" (top 53) ["plan", "thing"] (faL K 30) (fdL K 30) := ⟨Ft.glo_ok X G (s.fact 64 rfl), (s.def_ 30 rfl).kp, s.def_ 30 rfl, (s.def_ 30 rfl).binds fun _ _ _ _ _ _ us hl => match us, hl with | [_, _], _ => rfl⟩
  have h_d_33 : DefT K mg "pairs_of" "pairs_of" (top 33) ["profile"] (faL K 31) (fdL K 31) := ⟨Ft.glo_ok X G (s.fact 65 rfl), (s.def_ 31 rfl).kp, s.def_ 31 rfl, (s.def_ 31 rfl).binds fun _ _ _ _ _ _ us hl => match us, hl with | [_], _ => rfl⟩
  have h_d_37 : DefT K mg "is_profile" "is_profile" (top 37) ["votes", "value"] (faL K 32) (fdL K 32) := ⟨Ft.glo_ok X G (s.fact 66 rfl), (s.def_ 32 rfl).kp, s.def_ 32 rfl, (s.def_ 32 rfl).binds fun _ _ _ _ _ _ us hl => match us, hl with | [_, _], _ => rfl⟩
  have h_d_55 : DefT K mg "_law_told_right" "_law_told_right" (top 55) ["well", "plan", "every"] (faL K 33) (fdL K 33) := ⟨Ft.glo_ok X G (s.fact 67 rfl), (s.def_ 33 rfl).kp, s.def_ 33 rfl, (s.def_ 33 rfl).binds fun _ _ _ _ _ _ us hl => match us, hl with | [_, _, _], _ => rfl⟩
  have h_d_51 : DefT K mg "_law_tried" "_law_tried" (top 51) ["plan"] (faL K 34) (fdL K 34) := ⟨Ft.glo_ok X G (s.fact 68 rfl), (s.def_ 34 rfl).kp, s.def_ 34 rfl, (s.def_ 34 rfl).binds fun _ _ _ _ _ _ us hl => match us, hl with | [_], _ => rfl⟩
  have h_d_52 : DefT K mg "_law_rings" "_law_rings" (top 52) ["plan"] (faL K 35) (fdL K 35) := ⟨Ft.glo_ok X G (s.fact 69 rfl), (s.def_ 35 rfl).kp, s.def_ 35 rfl, (s.def_ 35 rfl).binds fun _ _ _ _ _ _ us hl => match us, hl with | [_], _ => rfl⟩
  have h_d_56 : DefT K mg "_law_right" "_law_right" (top 56) ["well"] (faL K 36) (fdL K 36) := ⟨Ft.glo_ok X G (s.fact 70 rfl), (s.def_ 36 rfl).kp, s.def_ 36 rfl, (s.def_ 36 rfl).binds fun _ _ _ _ _ _ us hl => match us, hl with | [_], _ => rfl⟩
  have h_d_43 : DefT K mg "_law_well" "_law_well" (top 43) ["script", "k"] (faL K 37) (fdL K 37) := ⟨Ft.glo_ok X G (s.fact 71 rfl), (s.def_ 37 rfl).kp, s.def_ 37 rfl, (s.def_ 37 rfl).binds fun _ _ _ _ _ _ us hl => match us, hl with | [_, _], _ => rfl⟩
  have h_d_57 : DefT K mg "law" "law" (top 57) ["script"] (faL K 38) (fdL K 38) := ⟨Ft.glo_ok X G (s.fact 72 rfl), (s.def_ 38 rfl).kp, s.def_ 38 rfl, (s.def_ 38 rfl).binds fun _ _ _ _ _ _ us hl => match us, hl with | [_], _ => rfl⟩
  exact ⟨h_n_abs, h_n_all, h_n_bool, h_n_divmod, h_n_enumerate, h_n_int, h_n_isinstance, h_n_len, h_n_list, h_n_max, h_n_min, h_n_range, h_n_repr, h_n_str, h_n_sum, h_n_tuple, h_n_zip, h_k_bool, h_k_int, h_k_tuple, h_c_MOST_NUMBER, h_c_MOST_VOTERS, h_c_NAMES, h_c_ORDERS, h_i_Votes, h_cl_Votes, h_x_Votes, h_mk_Votes, h_fl_own_firsts, h_fl_own_pairs, h_fl_own_people, h_fl_own_text, h_fl_own_voters, h_p_31_4, h_p_31_3, h_p_31_2, h_kw_37_0_value_votes, h_kw_40_0_votes, h_kw_41_0_votes, h_d_44, h_d_47, h_d_46, h_d_48, h_d_49, h_d_50, h_d_11, h_d_12, h_d_25, h_d_13, h_d_14, h_d_15, h_d_20, h_d_29, h_d_22, h_d_18, h_d_31_0, h_d_30, h_d_31_3, h_d_31_2, h_d_38, h_d_21, h_d_36, h_d_31_4, h_d_34, h_d_39, h_d_41, h_d_40, h_d_45, h_d_54, h_d_53, h_d_33, h_d_37, h_d_55, h_d_51, h_d_52, h_d_56, h_d_43, h_d_57⟩
theorem law_facts {P : Program} {w : World} {K : PySem.W.Frag} {h : Heap} {mg : Str → Option Value} {f : Addr} (X : K.In h) (G : h.Ns mainGlobals mg) (hfa : mg "law" = some (.ref f)) (s : SaysM fsL dsL tsL w K) :
    ∃ fd : FuncData, (∀ (s : Shared) (v : Value), BindsTo s fd ⟨[v], []⟩ [("script", v)]) ∧ ∀ base : Heap, K.In base → base.Ns mainGlobals mg → FnG P w K mg base (L2.CX P w) 9 f fd ["script"] (spD (ctxM K cn an) 1 f_57) := by
  have T := txtAll X G s
  have e := hfa.symm.trans T.d_57.g
  cases e
  refine ⟨fdL K 38, fun sh v => ?_, fun base _ _ => ok_57 rfl rfl T⟩
  obtain ⟨oc, od, kV, doc, pm, an, cdv, ct, osl, e, _, _⟩ := T.d_57.F.ex
  rw [e]
  exact .of_eq rfl
end Mir
open PySem PySem.W PySem.Calls PyProof.Rows
theorem PySem.Challenge.cw_toldtallies_k73_whole_profiles_by_trying_holds : PySem.Challenge.rw_toldtallies_k73_whole_profiles_by_trying.Holds := by
  w_on; o_law
  refine HandSHeadRun.head_any (r := OpenLaw.row PySem.Challenge.rw_toldtallies_k73_whole_profiles_by_trying) (q := view (OpenLaw.row PySem.Challenge.rw_toldtallies_k73_whole_profiles_by_trying).prog [57]) (H := Mir.hk) (ob := Mir.ob) (M := 20000) (loose := Mir.looseL) (d := HandSHeadRun.topDef (OpenLaw.row PySem.Challenge.rw_toldtallies_k73_whole_profiles_by_trying).prog 57) (kwd := []) Mir.ob_eq
    (by kernel_rfl) (fun s => by kernel_rfl) Mir.run (by kernel_rfl) (by kernel_rfl) (by kernel_rfl) (by rfl) (by first | assumption | decide +kernel) (by decide +kernel) ⟨rfl, rfl, rfl, rfl, rfl, by decide +kernel⟩ ?hw ?hc
  case hw => w_witness2
  case hc =>
    refine Mir.walk_ofG (l := PySem.Challenge.rw_toldtallies_k73_whole_profiles_by_trying) (n := 63) (k := 9) (x := "script") rfl (by decide) (by kernel_rfl) ⟨⟨rfl, by decide, by decide⟩, rfl⟩ ?F
    intro w mg fa h Y G hmg0
    obtain ⟨K, KX, c⟩ := Y
    have hmg : mg ("law" : PySem.Str) = some (.ref fa) := by
      have e : (HandSHeadRun.topDef (OpenLaw.row PySem.Challenge.rw_toldtallies_k73_whole_profiles_by_trying).prog 57).name = ("law" : PySem.Str) := by kernel_rfl
      rw [← e]
      exact hmg0
    obtain ⟨fd, hb, hF⟩ := Mir.law_facts (P := PySem.Challenge.rw_toldtallies_k73_whole_profiles_by_trying.prog) (w := w) KX G hmg c
    exact ⟨K, fd, _, KX, hb, fun H a ns hl _ hS => Mir.law_sp (n := 63) rfl Mir.law_plain hl hS, hF⟩

