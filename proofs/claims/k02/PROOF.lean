import PyProof.Rows.All
import Wide.All
import OpenK.AllK
import Wide.FinOn
import HandS.ForMost
import HandS.Wide
import HandS.Style
import HandS.TupAny
import HandS.Conv
import HandS.Zip
import HandS.Rev
import HandS.SetKeys
import KE.GoesEnum
import PyProof.ReprRoads
import HandS.TupMul
import PyProof.StrOps2
import KE.KIndexOf
import KE.KxMul
import HandS.SetFor
import PyProof.LongRange
import HandS.SortRule
import HandS.NoneIn
import KE.SortData
import HandS.Deep
import HandS.IsInst
import HandS.Strs
import HandS.Defaults
import HandS.ForExc
import HandS.TryMany
import HandS.CallLocal
import HandS.Ends
import PyProof.StrLawsRepr
import KE.IntTextLaws
import KE.KIntText
import PySem.Challenge.RW_drawntold_k02_texts_of_fractions
set_option Elab.async false
set_option linter.all false
set_option exponentiation.threshold 20000
set_option maxRecDepth 100000
set_option maxHeartbeats 4000000
namespace Mn
open PySem PySem.Spec PyProof.Rows
open L2 hiding It
/-! Mini R: rules that the hand layer lacks. -/
section
variable {X : Cx} {pos : Pos}
/-! ### slices of tuples: known to the object -/
def rSlF (K : PySem.W.Frag) : V → Option Int → Option Int → Hp → VK → Prop := fun x lo hi H Q => ∃ a xs, x = .ref a ∧ SqT K H a xs ∧
  (HT.sIx xs.length 0 lo = 0 ∧ HT.sIx xs.length xs.length hi = xs.length → Q (.ref a) H) ∧
  (¬ (HT.sIx xs.length 0 lo = 0 ∧ HT.sIx xs.length xs.length hi = xs.length) → ∀ (p : Addr) (o : Obj), H p = none → o.dict = none → Q (.ref p) (upd H p (.frz o (.tup (cutV xs lo hi)))))
theorem sl_tupF : L2.SlR X (rSlF X.K) := by
  intro pins s σ H x v vl vu lo hi sl Q I rx hs pl pu h
  obtain ⟨a, xs, e, hx, q1, q2⟩ := h
  subst e
  by_cases hw : HT.sIx xs.length 0 lo = 0 ∧ HT.sIx xs.length xs.length hi = xs.length
  · exact sl_tupA pins s σ H _ v vl vu lo hi sl Q I rx hs pl pu ⟨a, xs, rfl, hx, q1, fun n => absurd hw n⟩
  · obtain rfl : v = Value.ref a := rx
    obtain ⟨its, rv, tp, hz⟩ := I.tuple hx
    have hlen : its.toArray.size = xs.length := by rw [List.size_toArray]; exact rv.length.symm
    refine ⟨"tuple", _, slot_tuple_getitem.lookup, tp.typeIs, HT.getItem_tuple_cut tp hs pl pu (by rw [hlen]; exact hw) ?_ (by rw [hlen]; exact hz)⟩
    rw [hlen]
    generalize hits : ((its.toArray.toList.drop (HT.sIx xs.length 0 lo)).take (HT.sIx xs.length xs.length hi - HT.sIx xs.length 0 lo)).toArray = new
    have rn : Vals (cutV xs lo hi) new.toList := by
      rw [← hits]
      simp only [List.toList_toArray]
      exact (rv.drop _).take _
    refine ⟨.ref s.heap.objs.size, _, I.laid (t' := s.toks) (o := .frz { cls := .type "tuple", data := .seq new } (.tup (cutV xs lo hi))) (fun b ob q => Heap.get?_push_of_some _ q) (Nat.le_refl _) ?_, rfl, q2 hw _ _ (I.hok.fresh (Nat.le_refl _)) rfl⟩
    refine ⟨Heap.get?_push_size _ rfl, Nat.le_trans (cutV_length xs lo hi) hz, new.toList, rn, ?_⟩
    rw [Array.toArray_toList]
    exact IsTup.new _ _
/-! ### tuple(range(..)): known to the object -/
variable {e : Expr} {te : L2.St → Hp → (Int → Int → Hp → Prop) → Prop}
def tTupRgF (te : L2.St → Hp → (Int → Int → Hp → Prop) → Prop) : TE := fun σ H Q => te σ H fun a b H1 => RgOk a b ∧ ∀ (q : Addr) (o : Obj), H1 q = none → o.dict = none → Q (.ref q) (upd H1 q (.frz o (.tup (rgV a b))))
theorem pe_tupRgF {p : Pos} (hc : X.calm = true) (hg : Gl X "tuple") (hm : X.mg "tuple" = none) (he : PRg X e te) (na : starEach [e] X.env = (false, eval e X.env) :: starEach [] X.env) : PE X (.Call (.Name "tuple" p) [e] [] pos) (tTupRgF te) := by
  refine ⟨fun pins s σ H Q I h => Call_ (ld_blt I hg hm boot_tuple (callWith_type1 (args_cons (thn (he pins s σ H _ I h) fun x s1 ⟨r, a, b, t, u, v, H1, ex, hr, I1, ok, q⟩ => args_nil ?_) na) na))⟩
  obtain ⟨b1, b2, b3, b4, b5⟩ := ok
  rw [ex]
  refine call_tuple_range (n := (b - a).toNat) (I1.ok.hd hc) hr (small_one b1 b2 b3 b4) (rangeSize_nat a b) b5 fun h2 tk acc hk hi => ?_
  have I2 : Inv X pins σ H1 { s1 with heap := h2, toks := tk } := I1.kept hk
  have zl : (rgV a b).length ≤ sizeLine := by rw [rgV_length, sizeLine_eq]; omega
  have it : IsTup (h2.push { cls := .type "tuple", data := .seq acc }) h2.objs.size acc.toList.toArray := by rw [Array.toArray_toList]; exact IsTup.new _ _
  exact ⟨.ref h2.objs.size, _, I2.laid (t' := tk) (o := .frz { cls := .type "tuple", data := .seq acc } (.tup (rgV a b))) (fun c o z => Heap.get?_push_of_some _ z) (Nat.le_refl _) ⟨Heap.get?_push_size _ rfl, zl, acc.toList, vals_rg hi, it⟩, rfl, q _ _ (I2.hok.fresh (Nat.le_refl _)) rfl⟩
/-! ### in, not in: a dict -/
theorem op_in_dict (hu : X.A.units + 1 < cLine) : OpR X (compareOp .In) (fun x y H Q => ∃ a o, y = .ref a ∧ DGet H a x o ∧ Q (.bl o.isSome) H) := by
  intro pins s σ H x y v u Q I rx ry hq
  obtain ⟨a, o, e, g, q⟩ := hq
  subst e
  obtain rfl : u = Value.ref a := ry
  exact d_in hu I g rx fun s2 I2 => ⟨.bl _, H, I2, rfl, q⟩
theorem op_notin_dict (hu : X.A.units + 1 < cLine) : OpR X (compareOp .NotIn) (fun x y H Q => ∃ a o, y = .ref a ∧ DGet H a x o ∧ Q (.bl (!o.isSome)) H) := by
  intro pins s σ H x y v u Q I rx ry hq
  obtain ⟨a, o, e, g, q⟩ := hq
  subst e
  obtain rfl : u = Value.ref a := ry
  exact d_notIn hu I g rx fun s2 I2 => ⟨.bl _, H, I2, rfl, q⟩
end
/-! ### enumerate of a tuple -/
set_option maxHeartbeats 8000000 in
theorem meets_enum1 {v : Value} {o : Obj} {Y : Heap → Prop} (B : Begins v o Y) : Meets (Builtin.«enumerate.__new__» ⟨[.type "enumerate", v], []⟩) (fun _ R s => Y s.heap ∧
    R (.ok (.ret (.ref (s.heap.push o).objs.size))) { s with heap := (s.heap.push o).push { cls := .type "enumerate", data := .fields #[.none, .bool false, .ref s.heap.objs.size, rawInt 0, .none, .none] } }) :=
  .of_wp fun prog w A R s hy => by
    obtain ⟨hp, gg, dd, kk, oo⟩ := s
    obtain ⟨y1, hy⟩ := hy
    have hs0 := sub_enumerate
    have go : ∀ {A' : Around} {E : Value → Shared → Prop} {Q : Value → Shared → Prop}, Q (.ref hp.objs.size) ⟨hp.push o, gg, dd, kk, oo⟩ → wpAny (model prog w) A' (pyIter v) Q E ⟨hp, gg, dd, kk, oo⟩ := fun q => B.iter prog w _ _ _ _ y1 q
    wp_walk using go
    refine wpAny_stack_any fun stk => wpAny_pure ?_
    split
    · rename_i cc _ _ _ _ _
      cases (cc == Value.type "enumerate") <;> (wp_walk using go; exact ⟨_, rfl, hy⟩)
    · wp_walk using go
      exact ⟨_, rfl, hy⟩
/-- the tuple at a as it stands at each turn, each item in a new pair -/
def IteT (K : PySem.W.Frag) (a : Addr) : L2.It :=
  ⟨fun i H => ∃ (xs : List V) (x : V), SqT K H a xs ∧ xs[i]? = some x, fun i H v H' => ∃ T x, v = .ref T ∧ H T = none ∧ H' = upd H T (.tup [.int (i : Nat), x]) ∧ ∀ xs, SqT K H a xs → xs[i]? = some x, fun i H => ∃ xs : List V, SqT K H a xs ∧ xs.length = i⟩
theorem turn_enumT {P : Program} {w : World} {K : PySem.W.Frag} {elts : List Expr} {kk : Nat} {tpos : Pos} (a e it : Addr) :
    Turn P w K (.Tuple elts kk tpos) (IteT K a) [e, it] e (fun i h => (∃ old, IsEnum h e it ((i : Nat) : Int) old) ∧ h.IsTupleIter it a i ∧ e ≠ it ∧ a ≠ it ∧ a ≠ e) where
  mem := by simp
  obj := fun i h st b hb => by
    obtain ⟨⟨old, he⟩, ⟨o, ho, hc, hd⟩, _⟩ := st
    rcases List.mem_cons.mp hb with z | z
    · rw [z]
      exact ⟨_, he, fun v q => nomatch q⟩
    · rw [List.mem_singleton.mp z]
      exact ⟨o, ho, fun v q => by rw [hd] at q; cases q⟩
  keep := fun i h h' st k => by
    obtain ⟨⟨old, he⟩, hi, hne⟩ := st
    exact ⟨⟨old, k e (by simp) _ he⟩, hi.at fun o q => k it (by simp) o q, hne⟩
  item := by
    intro X hP hw hK hc i pins s σ H E I hf st hg
    subst hP hw hK
    obtain ⟨⟨old, he⟩, hit, hne, hai, hae⟩ := st
    obtain ⟨xs, x, hq, hx⟩ := hg
    obtain ⟨its, rv, p, hz⟩ := I.tuple hq
    obtain ⟨u, hu, ru⟩ := rv.get hx
    have hel : e < s.heap.objs.size := Heap.lt_size he
    have hil : it < s.heap.objs.size := by obtain ⟨_, q, _⟩ := hit; exact Heap.lt_size q
    have D := Draws.tuple (prog := X.prog) (w := X.w) (A := X.A.in1) (I.ok.hd hc) it a hai its.toArray
    refine wpAny_pyNext_enum_itemD (i := i) D he ⟨hit, p⟩ (by have := (List.getElem?_eq_some_iff.mp hu).1; simpa using this) hne (by simp [Ne.symm hae, hne]) fun z h2 tk hz2 ho st2 hT hsz hk => ?_
    have ez : z = u := by
      have q : its[i]? = some z := by simpa using hz2
      rw [hu] at q
      exact (Option.some.inj q).symm
    subst ez
    refine ⟨_, rfl, wpAny_letOwnedTupleGo_enum (s := { s with heap := h2, toks := tk + 1 }) ho fun h3 he3 sb => ?_⟩
    have hT3 : h3.get? s.heap.objs.size = some { cls := .type "tuple", data := .seq #[.int i tk, z] } := (sb.2 _ (Nat.ne_of_gt hel)).trans hT
    have new : ObjOk X.prog X.w (upd H s.heap.objs.size (.tup [.int (i : Nat), x])) h3 s.heap.objs.size (.tup [.int (i : Nat), x]) :=
      ⟨by show 2 ≤ sizeLine; decide, [.int i tk, z], .cons ⟨_, rfl⟩ (.cons ru .nil), ⟨_, hT3, rfl, _, rfl⟩⟩
    have I1 : Inv X pins σ (upd H s.heap.objs.size (.tup [.int (i : Nat), x])) { s with heap := h3, toks := tk + 1 } :=
      I.turnedNew (ch := [e, it]) (fun b ob hb q => (sb.2 b (fun z => hb (by simp [z]))).trans (hk b ob (fun z => hb (by simp [z])) (fun z => hb (by simp [z])) q)) hf (Nat.le_refl _) new
    refine ⟨.ref s.heap.objs.size, _, I1, rfl, ⟨_, x, rfl, I.hok.fresh (Nat.le_refl _), rfl, fun ys hy => by rw [I.tuple_inj hy hq]; exact hx⟩, ⟨⟨z, ?_⟩, st2.1.at fun o q => (sb.2 it (Ne.symm hne)).trans q, hne, hai, hae⟩, fun b hb => ?_⟩
    · rw [show ((i + 1 : Nat) : Int) = (i : Int) + 1 by omega]
      exact he3
    · rw [upd_ne (Nat.ne_of_lt (show b < s.heap.objs.size by
        rcases List.mem_cons.mp hb with q | q
        · rw [q]; exact hel
        · rw [List.mem_singleton.mp q]; exact hil))]
      exact (hf b hb).1
  done := by
    intro X hP hw hK hc i pins s σ H E I hf st hg
    subst hP hw hK
    obtain ⟨⟨old, he⟩, hit, hne, hai, hae⟩ := st
    obtain ⟨xs, hq, hx⟩ := hg
    obtain ⟨its, rv, p, hz⟩ := I.tuple hq
    obtain ⟨f0, f1, f2, f3, f4, f5⟩ := hf it (by simp)
    have D := Draws.tuple (prog := X.prog) (w := X.w) (A := X.A.in1) (I.ok.hd hc) it a hai its.toArray
    have el : its.toArray.size = i := by rw [List.size_toArray, ← rv.length, hx]
    exact wpAny_pyNext_enum_endD D he ⟨by rw [el]; exact hit, p⟩ fun h2 eb => ⟨rfl, I.turned (t' := s.toks) (fun b o hb q => eb b o hb q) f0 f1 f3 f4 f5⟩
  self := fun A i s Q E st hh => by
    obtain ⟨⟨_, he⟩, _⟩ := st
    exact wpAny_pyIter_enum he hh
def iEnumT (K : PySem.W.Frag) (ta : TA) : TI := fun σ H R => ta σ H fun vs H1 => ∃ a xs, vs = [.ref a] ∧ SqT K H1 a xs ∧ R (IteT K a) H1
theorem call_enum1 {prog : Program} {w : World} {A : Around} {E : Value → Shared → Prop} {s : Shared} {v : Value} {o : Obj} {Y : Heap → Prop} {Q : Value → Shared → Prop} (B : Begins v o Y) (y : Y s.heap)
    (q : ∀ h2, IsEnum h2 (s.heap.objs.size + 1) s.heap.objs.size 0 .none → h2.get? s.heap.objs.size = some o → (∀ b u, s.heap.get? b = some u → h2.get? b = some u) → Q (.ref (s.heap.objs.size + 1)) { s with heap := h2 }) :
    wpAny (model prog w) A (call (.type "enumerate") [v]) Q E s := by
  refine callType_new F.called_enumerate (by decide) (F.typeCall_enumerate_1 _) (F.newCall_enumerate_1 _) (fun obj => F.args_object_init_2 obj _) F.entry_enumerate_new (meets_enum1 B) ⟨y, ?_⟩
  have z : (s.heap.push o).objs.size = s.heap.objs.size + 1 := Heap.size_push ..
  have he : IsEnum ((s.heap.push o).push { cls := .type "enumerate", data := .fields #[.none, .bool false, .ref s.heap.objs.size, rawInt 0, .none, .none] }) (s.heap.objs.size + 1) s.heap.objs.size 0 .none := by
    rw [← z]
    exact Heap.get?_push_size _ rfl
  show _ ∧ _
  rw [z]
  exact ⟨⟨_, he, rfl⟩, q _ he (Heap.get?_push_of_some _ (Heap.get?_push_size _ B.free)) fun b u x => Heap.get?_push_of_some _ (Heap.get?_push_of_some _ x)⟩
theorem pi_enumT {X : Cx} {e : Expr} {ta : TA} {p pos tpos : Pos} {elts : List Expr} {kk : Nat} (hg : Gl X "enumerate") (hm : X.mg "enumerate" = none) (ha : PA X [e] ta) (hs : starEach [e] X.env = [(false, eval e X.env)]) :
    PI X (.Tuple elts kk tpos) (.Call (.Name "enumerate" p) [e] [] pos) (iEnumT X.K ta) := by
  refine ⟨fun pins s σ H R I h => Call_ (ld_blt I hg hm boot_enumerate (callWith_type1 (thn (ha.run pos pins s σ H _ I h) fun us s1 ⟨vs, H1, I1, r1, q1⟩ => ?_) hs rfl))⟩
  obtain ⟨a, xs, ex, hq, q⟩ := q1
  rw [ex] at r1
  obtain ⟨u, rfl, rx⟩ := vals1 r1
  obtain rfl : u = Value.ref a := rx
  obtain ⟨its, rv, p', hz⟩ := I1.tuple hq
  have al : a < s1.heap.objs.size := by obtain ⟨o, ho, _⟩ := id p'; exact Heap.lt_size ho
  refine call_enum1 (begins_tuple a its.toArray) p' fun h2 he hit hk => wpAny_pyIter_enum he ?_
  have I2 : Inv X pins σ H1 { s1 with heap := h2 } := I1.kept (t' := s1.toks) hk
  refine ⟨s1.heap.objs.size + 1, [s1.heap.objs.size + 1, s1.heap.objs.size], _, _, H1, rfl, I2, turn_enumT a (s1.heap.objs.size + 1) s1.heap.objs.size, ⟨⟨.none, he⟩, ⟨_, hit, rfl, rfl⟩, Nat.succ_ne_self _, Nat.ne_of_lt al, Nat.ne_of_lt (Nat.lt_succ_of_lt al)⟩, fun b hb => ?_, q⟩
  have hle : s1.heap.objs.size ≤ b := by
    rcases List.mem_cons.mp hb with z | z
    · rw [z]; exact Nat.le_add_right _ _
    · rw [List.mem_singleton.mp z]; exact Nat.le_refl _
  exact I1.fpOk hle (I1.hok.fresh hle)

/-! Mini R2: sets. -/
/-! ### a set of texts and ints, from a tuple -/
def inK (k : Key) (acc : List Key) : Bool := acc.any fun j => decide (j = k)
theorem inK_iff {k : Key} {acc : List Key} : inK k acc = true ↔ k ∈ acc := by
  unfold inK
  rw [List.any_eq_true]
  exact ⟨fun ⟨j, h, e⟩ => of_decide_eq_true e ▸ h, fun h => ⟨k, h, decide_eq_true rfl⟩⟩
def stepK (acc : List Key) (k : Key) : List Key := if inK k acc = true then acc else acc ++ [k]
/-- each once, as it comes first -/
def distL (ks : List Key) : List Key := ks.foldl stepK []
theorem distL_snoc (ks : List Key) (k : Key) : distL (ks ++ [k]) = stepK (distL ks) k := by
  unfold distL
  rw [List.foldl_append] <;> rfl
theorem stepK_mem {acc : List Key} {k j : Key} : j ∈ stepK acc k ↔ j ∈ acc ∨ j = k := by
  unfold stepK
  split
  · rename_i h
    exact ⟨.inl, fun z => z.elim id fun e => by rw [e]; exact inK_iff.mp h⟩
  · rw [List.mem_append, List.mem_singleton]
theorem stepK_in {acc : List Key} {k j : Key} : inK j (stepK acc k) = (inK j acc || decide (j = k)) := by
  rw [Bool.eq_iff_iff, Bool.or_eq_true, decide_eq_true_eq, inK_iff, inK_iff]
  exact stepK_mem
theorem distL_mem {j : Key} (ks : List Key) : j ∈ distL ks ↔ j ∈ ks := by
  suffices h : ∀ (ks acc : List Key), j ∈ ks.foldl stepK acc ↔ j ∈ acc ∨ j ∈ ks by
    unfold distL
    rw [h]
    simp
  intro ks
  induction ks with
  | nil => intro acc; simp
  | cons k ks ih =>
    intro acc
    rw [List.foldl_cons, ih, stepK_mem, List.mem_cons, or_assoc]
theorem stepK_len (acc : List Key) (k : Key) : (stepK acc k).length = if inK k acc = true then acc.length else acc.length + 1 := by
  unfold stepK
  split
  · rfl
  · rw [List.length_append] <;> rfl
theorem distL_le (ks : List Key) : (distL ks).length ≤ ks.length := by
  suffices h : ∀ (ks acc : List Key), (ks.foldl stepK acc).length ≤ acc.length + ks.length by
    have := h ks []
    simpa [distL] using this
  intro ks
  induction ks with
  | nil => intro acc; simp
  | cons k ks ih =>
    intro acc
    rw [List.foldl_cons, List.length_cons]
    refine Nat.le_trans (ih _) ?_
    rw [stepK_len]
    split <;> omega
abbrev HasK (P : Program) (w : World) (h : Heap) (S : Addr) (l : List Key) : Prop := h.SetOf (mixKind P w) S (fun j => inK j l) l.length
theorem HasK.stay {P : Program} {w : World} {h g : Heap} {S : Addr} {l : List Key} (x : HasK P w h S l) (k : ∀ o, h.get? S = some o → g.get? S = some o) : HasK P w g S l := setOf_at x k
theorem HasK.grow {P : Program} {w : World} {h : Heap} {S : Addr} {l : List Key} {k : Key} (x : h.SetOf (mixKind P w) S (fun j => inK j l || decide (j = k)) (if inK k l = true then l.length else l.length + 1)) : HasK P w h S (stepK l k) := by
  unfold HasK
  rw [stepK_len, show (fun j => inK j (stepK l k)) = fun j => inK j l || decide (j = k) from funext fun j => stepK_in]
  exact x
section
variable {P : Program} {w : World} {A : Around} {R : Result → Shared → Prop} {J : Addr} {fp wr : List Addr} {G : Array GenState → Array GenState → Prop} {n : Nat} {Pv : Nat → Value → Prop} {Sx : Nat → Shared → Prop}
/-- set.update's loop over texts and ints -/
theorem set_grows (W : WalksS P w A.in1 J fp wr G n Pv Sx) (S : Addr) (nS : S ∉ fp) (ks : List Key) (hn : n = ks.length) (hv : ∀ i v, Pv i v → ∃ k, ks[i]? = some k ∧ RelV (kV k) v) (few : n + 1 < scanBound) : ∀ (m i : Nat) (s : Shared), n - i = m → i ≤ n → Sx i s →
    HasK P w s.heap S (distL (ks.take i)) → (∀ t, Moved (S :: wr) G s t → HasK P w t.heap S (distL ks) → R (.ok (.ret .none)) t) → codeAny (model P w) A (.builtin "set.update.loop" ⟨[.ref S, .ref J], []⟩) R s
  | 0, i, s, hm, hi, st, hS, fin => by
    obtain rfl : i = n := by omega
    refine codeAny_builtin F.entry_set_update_loop (Around.under_plainId F.plain_set_update_loop _ ▸ (show wpAny _ A.in1 (pyNext (.ref J) >>= _) _ _ s from wpAny_bind (W.done s _ _ st fun t mv => ?_)))
    refine show wpAny _ A.in1 (ret Value.none) _ _ t from wpAny_pure (fin t (mv.mono fun b hb => List.mem_cons_of_mem _ hb) ?_)
    rw [hn, List.take_length] at hS
    exact hS.stay fun o e => mv.heap S o (fun z => nS (W.sub _ z)) e
  | m + 1, i, s, hm, hi, st, hS, fin => by
    have lt : i < n := by omega
    refine codeAny_builtin F.entry_set_update_loop (Around.under_plainId F.plain_set_update_loop _ ▸ (show wpAny _ A.in1 (pyNext (.ref J) >>= _) _ _ s from wpAny_bind (W.item i s _ _ lt st fun v t pv st2 mv => ?_)))
    obtain ⟨k, hk, rk⟩ := hv i v pv
    have hS2 := hS.stay (g := t.heap) fun o e => mv.heap S o (fun z => nS (W.sub _ z)) e
    refine show wpAny _ A.in1 (holding [v] (setAdd S v) >>= _) _ _ t from wpAny_bind (wpAny_holding ?_)
    unfold setAdd
    have room : (distL (ks.take i)).length + 1 < scanBound := by
      have a := distL_le (ks.take i)
      rw [List.length_take] at a
      omega
    refine wpAny_holding (wpAny_bind ((mixKind P w).pyHash (k := k) (kV_is rk) (wpAny_setAddHashed_of (knd := mixKind P w) (s := { t with toks := t.toks + 1 }) (kV_is rk) (key_scan rk) hS2 room fun h2 sb hS3 => ?_)))
    have e : distL (ks.take (i + 1)) = stepK (distL (ks.take i)) k := by rw [List.take_succ, hk] <;> exact distL_snoc _ _
    have hS4 : HasK P w h2 S (distL (ks.take (i + 1))) := by rw [e]; exact HasK.grow hS3
    refine wpAny_pure ⟨plainId_quiet F.plain_set_update_loop _, set_grows W S nS ks hn hv few m (i + 1) _ (by omega) lt (W.frame _ t _ _ st2 (Nat.le_succ _) fun b hb o z => ?_) hS4 fun u mv2 hS5 => ?_⟩
    · exact (sb.2 b fun q => nS (q ▸ hb)).trans z
    · refine fin u (Moved.trans W.gtrans ((mv.mono fun b hb => List.mem_cons_of_mem _ hb).then_heap (Nat.le_succ _) fun b o hb z => ?_) mv2) hS5
      exact (sb.2 b fun q => hb (q ▸ List.mem_cons_self)).trans z
end
section
variable {P : Program} {w : World} {A : Around} {E : Value → Shared → Prop} {s : Shared}
abbrev freshS (led : Bool) : Obj := { cls := .type "set", dict := none, data := .set #[] 0 (.fresh 0 0 led) }
set_option maxHeartbeats 8000000 in
/-- set(t) -/
theorem call_set_tup {l : Addr} {its : Array Value} {ks : List Key} {Q : Value → Shared → Prop} (hh : A.handled = none) (tp : s.heap.IsTuple l its) (rv : Vals (ks.map kV) its.toList) (few : ks.length + 1 < scanBound)
    (q : ∀ (g : Heap) (tk : Nat), HasK P w g s.heap.objs.size (distL ks) → (∀ b o, s.heap.get? b = some o → g.get? b = some o) → Q (.ref s.heap.objs.size) { s with heap := g, toks := tk }) : wpAny (model P w) A (call (.type "set") [.ref l]) Q E s := by
  have CS := F.called_set
  obtain ⟨mc, mt, hmro⟩ := CS.mro
  have m1 := CS.made
  have m2 := CS.sub
  have m3 := CS.notType
  have m4 := CS.canCreate
  have m5 := F.typeCall_set_1 (.ref l)
  refine wpAny_call (codeAny_of_tree (show wpAny _ _ (callAny (.type "set") _) _ _ _ from wpAny_pure ⟨Code.quiet_builtin _ (by decide +kernel), codeAny_builtin F.entry_type_call ?_⟩))
  rw [Around.under_plain (weight_type_call_type "set" [.ref l] []) rfl]
  repeat (any_goals (first | assumption | wp_step))
  have nlen : its.size = ks.length := by have z := rv.length; rw [List.length_map, Array.length_toList] at z; exact z.symm
  refine codeAny_mono (code_set_new_1 (.ref l) (E := E) (Q₁ := fun ob t => ∃ led : Bool, ob = .ref s.heap.objs.size ∧ t = { s with heap := s.heap.push { cls := .type "set", dict := none, data := .set #[] 0 (.fresh 0 0 led) } }) fun led => ⟨led, rfl, rfl⟩) fun r t hr => ?_
  match r, hr with
  | .error e, hr => exact hr
  | .ok .next, hr => exact hr.elim
  | .ok .brk, hr => exact hr.elim
  | .ok .cont, hr => exact hr.elim
  | .ok (.ret ob), hr =>
    obtain ⟨led, e1, e2⟩ := hr
    subst e1 e2
    have hS : (s.heap.push (freshS led)).get? s.heap.objs.size = some (freshS led) := Heap.get?_push_size _ rfl
    have ty : Shared.TypeIs { s with heap := s.heap.push (freshS led) } (.ref s.heap.objs.size) "set" := ⟨_, hS, rfl⟩
    have i1 := CS.init.lookup
    have i2 := CS.init.bind (.ref s.heap.objs.size)
    repeat (any_goals (first | assumption | wp_step))
    refine codeAny_mono (codeAny_call_builtin (R := wants (fun r t => r = .none ∧ ∃ g tk, t = { s with heap := g, toks := tk } ∧ HasK P w g s.heap.objs.size (distL ks) ∧ ∀ b o, s.heap.get? b = some o → g.get? b = some o) E) CS.init.plain F.entry_set_init (check_set_init_1 ty ?_)) fun r t hr => ?_
    · have tp1 : (s.heap.push (freshS led)).IsTuple l its := tp.push _
      obtain ⟨⟨oc, od, odt, osl⟩, ho, hc, nn, hd⟩ := id tp1
      simp only at hc hd
      subst hc hd
      have n1 := F.sub_tuple_set
      have n2 := F.sub_tuple_frozenset
      have n3 : (Value.type "tuple" == Value.type "dict") = false := by decide
      have lt0 : l < s.heap.objs.size := by obtain ⟨_, z, _⟩ := id tp; exact Heap.lt_size z
      unfold Builtin.«set.__init__» noKeywords Builtin.Frozenset.updateFrom
      generalize hPI : pyIter = PI
      wp_walk
      subst hPI
      have sz1 : (s.heap.push (freshS led)).objs.size = s.heap.objs.size + 1 := Heap.size_push ..
      have apart : l ≠ (s.heap.push (freshS led)).objs.size := by rw [sz1]; exact Nat.ne_of_lt (Nat.lt_succ_of_lt lt0)
      refine wpAny_pyIter_tuple tp1 ?_
      refine wpAny_bind (wpAny_runValue ?_)
      refine set_grows ((Walks.tuple (by simp [hh]) _ l apart its).toS) s.heap.objs.size (by rw [sz1]; simp only [List.mem_cons, List.not_mem_nil, or_false, not_or]; exact ⟨Nat.ne_of_lt (Nat.lt_succ_self _), Nat.ne_of_gt lt0⟩) ks nlen (fun i v hv => ?_) (by rw [nlen]; exact few) its.size 0 _ (by omega) (Nat.zero_le _) ⟨⟨_, Heap.get?_push_size _ rfl, rfl, rfl⟩, tp1.push _⟩ ?_ fun u mv hk => ?_
      · have z : its.toList[i]? = some v := by rw [Array.getElem?_toList]; exact hv
        have lt : i < ks.length := by rw [← nlen]; have := (Array.getElem?_eq_some_iff.mp hv).1; exact this
        obtain ⟨u, e, ru⟩ := rv.get (i := i) (x := kV ks[i]) (by simp [lt])
        rw [z] at e
        cases e
        exact ⟨ks[i], by simp [lt], ru⟩
      · have hg := Heap.get?_push_of_some { cls := .type "tuple_iterator", data := .fields #[.ref l, .int 0 0] } hS
        exact ⟨_, #[], 0, _, hg, ⟨rfl, rfl, rfl⟩, rfl, (fun e he => by simp at he), (fun k => by simp [distL, inK]), (by decide), (by rfl), rfl⟩
      · obtain ⟨g, g2, d2, tk, os2⟩ := u
        obtain rfl : g2 = s.gens := mv.gens
        obtain rfl : d2 = s.drawn := mv.drawn
        obtain rfl : os2 = s.os := mv.os
        refine show wpAny _ _ _ _ _ _ from wpAny_pure (show wpAny _ _ (ret Value.none) _ _ _ from wpAny_pure ⟨rfl, g, tk, rfl, hk, fun b o z => ?_⟩)
        have lb : b < s.heap.objs.size := Heap.lt_size z
        refine mv.heap b o ?_ (Heap.get?_push_of_some _ (Heap.get?_push_of_some _ z))
        rw [sz1]
        simp only [List.mem_cons, List.not_mem_nil, or_false, not_or]
        exact ⟨Nat.ne_of_lt lb, Nat.ne_of_lt (Nat.lt_succ_of_lt lb)⟩
    · match r, hr with
      | .error e, hr => exact hr
      | .ok .next, hr => exact hr.elim
      | .ok .brk, hr => exact hr.elim
      | .ok .cont, hr => exact hr.elim
      | .ok (.ret ob), hr =>
        obtain ⟨e1, g, tk, e2, hk, keep⟩ := hr
        subst e1 e2
        repeat (any_goals (first | assumption | wp_step))
        exact q _ _ hk keep
end
section
variable {X : Cx}
/-- len(set(t)) -/
def tLenSetK (K : PySem.W.Frag) (ta : TE) : TE := fun σ H Q => ta σ H fun x H1 => ∃ (l : Addr) (ks : List Key), x = .ref l ∧ SqT K H1 l (ks.map kV) ∧ ks.length + 1 < scanBound ∧ Q (.int (distL ks).length) H1
theorem pe_lenSetK {a : Expr} {ta : TE} {p p2 q pos : Pos} (hc : X.calm = true) (hg : Gl X "len") (hm : X.mg "len" = none) (hg2 : Gl X "set") (hm2 : X.mg "set" = none) (ha : PE X a ta) (na : starEach [a] X.env = (false, eval a X.env) :: starEach [] X.env) :
    PE X (.Call (.Name "len" p) [.Call (.Name "set" p2) [a] [] q] [] pos) (tLenSetK X.K ta) := by
  refine ⟨fun pins s σ H Q I h => Call_ (ld_blt I hg hm boot_len (callWith_builtin1 (args_cons (Call_ (ld_blt I hg2 hm2 boot_set (callWith_type1 (args_cons (thn (ha.run pins s σ H _ I h) fun v t ⟨x, H1, I1, r1, q1⟩ => args_nil ?_) na) na rfl))) rfl) rfl rfl))⟩
  obtain ⟨l, ks, ex, hq, few, q1⟩ := q1
  subst ex
  obtain rfl : v = Value.ref l := r1
  obtain ⟨its, rv, tp, hz⟩ := I1.tuple hq
  refine call_set_tup (ks := ks) (I1.ok.hd hc) tp (by simpa using rv) few fun g tk hk keep => args_nil ?_
  obtain ⟨o, es, ep, tb, ho, hex, hd, _, _, _, hf, hn⟩ := hk
  have I2 : Inv X pins σ H1 { t with heap := g, toks := tk } := I1.kept keep
  exact call_len_set ho hex hd hf (by rw [hn]; have z := distL_le ks; unfold scanBound at few; omega) ⟨.int (distL ks).length, H1, I2.tok _, ⟨_, by rw [hn]⟩, q1⟩
end

/-! Mini R3: a tuple turned about, repr. -/
section
variable {prog : Program} {w : World} {A : Around} {E : Value → Shared → Prop} {s : Shared}
theorem back_places (n : Nat) : Builtin.Slice.sliceAdjust none none (-1) (n : Int) = ((n : Int) - 1, -1) ∧ Builtin.Slice.slicePlaces ((n : Int) - 1) (-1) (-1) = n := by
  refine ⟨rfl, ?_⟩
  unfold Builtin.Slice.slicePlaces
  rw [if_neg (by decide)]
  split
  · have : ((n : Int) - 1 - -1 - 1) / (- -1) + 1 = n := by
      rw [show (- -1 : Int) = 1 by decide, Int.ediv_one]
      omega
    omega
  · omega
theorem pick_back (xs : Array Value) : ((List.range xs.size).filterMap fun (m : Nat) => xs[((xs.size : Int) - 1 + (m : Int) * -1).toNat]?).toArray = xs.toList.reverse.toArray := by
  congr 1
  have e : ∀ n, n ≤ xs.size → ((List.range n).filterMap fun (m : Nat) => xs[((xs.size : Int) - 1 + (m : Int) * -1).toNat]?) = (xs.toList.reverse).take n := by
    intro n
    induction n with
    | zero => intro _; simp
    | succ n ih =>
      intro h
      have lt : xs.size - 1 - n < xs.size := by omega
      have e1 : ((xs.size : Int) - 1 + (n : Int) * -1).toNat = xs.size - 1 - n := by omega
      rw [List.range_succ, List.filterMap_append, ih (by omega), List.take_succ]
      congr 1
      rw [List.getElem?_reverse (by simp; omega)]
      simp only [List.filterMap_cons, List.filterMap_nil, e1, Array.length_toList]
      rw [Array.getElem?_toList]
      cases k : xs[xs.size - 1 - n]? <;> rfl
  rw [e _ (Nat.le_refl _), List.take_of_length_le (by simp)]
theorem getItem_back {t sl : Addr} {its : Array Value} {vs : Value} {Q : Value → Shared → Prop} (tp : IsTup s.heap t its) (hs : s.heap.IsSliceOf sl .none .none vs) (pv : IsPart vs (some (-1))) (z : its.size ≤ sizeLine)
    (h : Q (.ref s.heap.objs.size) { s with heap := s.heap.push { cls := .type "tuple", data := .seq its.toList.reverse.toArray } }) : wpAny (model prog w) A (getItem (.ref t) (.ref sl)) Q E s := by
  have hz : sizeOk (.seq its.toList.reverse.toArray) := by
    show its.toList.reverse.toArray.size ≤ sizeLine
    simpa using z
  obtain ⟨os, ho, hc, hd⟩ := id hs
  have ty : s.TypeIs (.ref sl) "slice" := ⟨os, ho, hc⟩
  unfold getItem
  try with_reducible refine wpAny_holding ?_
  first | refine wpAny_bind (wpAny_pure ?_) | skip
  refine wpAny_bind (wpAny_sequenceKey tp.typeIs (by decide) (wpAny_bind (wpAny_callSpecial?_slot (name := Str.ofString "__getitem__") tp.typeIs slot_tuple_getitem (wpAny_call_entry slot_tuple_getitem tp.typeIs entry_tuple_getitem ?_ (args_tuple_getitem _ _)))))
  refine show wpAny _ _ (Builtin.Tuple.tupleItemsOf (.ref t) >>= _) _ _ s from wpAny_bind (tupleItemsOf_ tp (wpAny_bind (wpAny_typeOf ty ?_)))
  rw [if_pos (by decide)]
  refine wpAny_bind (m := Builtin.Slice.sliceApplied _ _) ?_
  unfold Builtin.Slice.sliceApplied Builtin.Slice.sliceFields
  refine wpAny_bind (wpAny_bind (wpAny_field ho hd (x := .none) rfl (wpAny_bind (wpAny_field ho hd (x := .none) rfl (wpAny_bind (wpAny_field ho hd (x := vs) rfl (wpAny_pure ?_)))))))
  refine wpAny_bind (HT.slicePart_ pv ?_)
  show wpAny _ _ (if ((-1 : Int) == 0) = true then _ else _) _ _ s
  rw [if_neg (by decide)]
  refine wpAny_bind (HT.slicePart_ .none (wpAny_bind (HT.slicePart_ .none (wpAny_bind (wpAny_pure ?_)))))
  obtain ⟨e1, e2⟩ := back_places its.size
  show wpAny _ _ (match Builtin.Slice.sliceAdjust none none (-1) (its.size : Int) with | (lo, hi) => pure (lo, (-1 : Int), Builtin.Slice.slicePlaces lo hi (-1))) _ _ s
  rw [e1]
  refine show wpAny _ _ (pure (((its.size : Int) - 1), (-1 : Int), Builtin.Slice.slicePlaces ((its.size : Int) - 1) (-1) (-1))) _ _ s from ?_
  rw [e2]
  refine wpAny_pure ?_
  show wpAny _ _ (if ((its.size : Int) - 1 == 0 && (-1 : Int) == 1 && its.size == its.size) = true then _ else _) _ _ s
  rw [if_neg (by simp), pick_back]
  first
    | exact wpAny_bind (m := Builtin.Tuple.tupleExact _) (wpAny_newObj_type (wpAny_pure ⟨_, rfl, wpAny_pure h⟩) hz)
    | exact wpAny_bind (m := Builtin.Tuple.tupleExact _) (wpAny_newObj_type (wpAny_bind (wpAny_pure (wpAny_pure ⟨_, rfl, wpAny_pure h⟩))) hz)
    | exact wpAny_bind (wpAny_bind (m := Builtin.Tuple.tupleExact _) (wpAny_newObj_type (wpAny_pure (wpAny_pure ⟨_, rfl, wpAny_pure h⟩)) hz))
    | exact wpAny_bind (wpAny_bind (m := Builtin.Tuple.tupleExact _) (wpAny_newObj_type (wpAny_pure ⟨_, rfl, wpAny_pure h⟩) hz))
end
section
variable {X : Cx}
/-- x[::-1], x a list or a tuple -/
def tRevA (K : PySem.W.Frag) (te : TE) : TE := fun σ H Q => te σ H fun x H1 => ∃ a xs, x = .ref a ∧ ((SqL K H1 a xs ∧ ∀ p, H1 p = none → Q (.ref p) (upd H1 p (.lst xs.reverse))) ∨
  (SqT K H1 a xs ∧ ∀ (p : Addr) (o : Obj), H1 p = none → o.dict = none → Q (.ref p) (upd H1 p (.frz o (.tup xs.reverse)))))
theorem pe_revA {e : Expr} {te : TE} {k : Nat} {p1 p2 p3 pos : Pos} (he : PE X e te) : PE X (.Subscript e (.Slice none none (some (.UnaryOp .USub (.Constant (.int 1) k p1) p2)) p3) pos) (tRevA X.K te) := by
  refine ⟨fun pins s σ H Q I h => Subscript_ (thn (he.run pins s σ H _ I h) fun v s1 ⟨x, H1, I1, r1, a, xs, ex, q⟩ => ?_)⟩
  subst ex
  obtain rfl : v = Value.ref a := r1
  have hst : PO X (some (.UnaryOp .USub (.Constant (.int 1) k p1) p2)) (tPart (tUn (rU fun i => .int (-i)) (tC (.int 1)))) := po_some (pe_un un_neg pe_int)
  refine wpAny_Slice (thn (po_none.run pins s1 σ H1 (fun o H2 => o = none ∧ H2 = H1) I1 ⟨rfl, rfl⟩) fun vl s2 ⟨l, H2, I2, pl, el, e2⟩ => thn (po_none.run pins s2 σ H2 (fun o H3 => o = none ∧ H3 = H2) I2 ⟨rfl, rfl⟩) fun vu s3 ⟨u, H3, I3, pu, eu, e3⟩ => thn (hst.run pins s3 σ H3 (fun o H4 => o = some (-1) ∧ H4 = H3) I3 ⟨1, rfl, -1, rfl, rfl, rfl⟩) fun vs s4 ⟨o, H4, I4, ps, eo, e4⟩ => ?_)
  subst el eu eo e2 e3 e4
  have I5 : Inv X pins σ H4 { s4 with heap := s4.heap.push { cls := .type "slice", data := .fields #[vl, vu, vs] } } := I4.kept (t' := s4.toks) fun b ob z => Heap.get?_push_of_some _ z
  rcases q with ⟨hx, q⟩ | ⟨hx, q⟩
  · obtain ⟨its, rv, tp, hz⟩ := I5.list hx
    have hlen := rv.length
    refine show wpAny (model X.prog X.w) X.A (subscriptTail e (.Slice none none (some (.UnaryOp .USub (.Constant (.int 1) k p1) p2)) p3) (.ref a) (.ref s4.heap.objs.size)) (EP X pins σ Q) X.xe { s4 with heap := s4.heap.push { cls := .type "slice", data := .fields #[vl, vu, vs] } } from ?_
    refine tail_any (ops := [.ref a, .ref s4.heap.objs.size]) tp.isList.typeIs (PySem.slot_list_getitem.lookup) (wpAny_getItem_list_slice tp.isList (Heap.IsSliceOf.new _ vl vu vs) pl pu ps (by decide) ?_ (by rw [List.size_toArray]; omega)) (by with_unfolding_all rfl)
    rw [PySem.W.krv_pick]
    exact ⟨.ref _, _, I5.laid (t' := s4.toks) (o := .lst xs.reverse) (fun b ob z => Heap.get?_push_of_some _ z) (Nat.le_refl _) ⟨by rw [List.length_reverse]; exact hz, _, 0, rv.reverse, Heap.get?_push_size _ rfl⟩, rfl, q _ (I5.hok.fresh (Nat.le_refl _))⟩
  · obtain ⟨its, rv, tp, hz⟩ := I5.tuple hx
    have hlen := rv.length
    obtain rfl : vl = Value.none := by cases pl; rfl
    obtain rfl : vu = Value.none := by cases pu; rfl
    refine show wpAny (model X.prog X.w) X.A (subscriptTail e (.Slice none none (some (.UnaryOp .USub (.Constant (.int 1) k p1) p2)) p3) (.ref a) (.ref s4.heap.objs.size)) (EP X pins σ Q) X.xe { s4 with heap := s4.heap.push { cls := .type "slice", data := .fields #[.none, .none, vs] } } from ?_
    refine tail_any (ops := [.ref a, .ref s4.heap.objs.size]) tp.typeIs slot_tuple_getitem.lookup (getItem_back tp (Heap.IsSliceOf.new _ .none .none vs) ps (by rw [List.size_toArray]; omega) ?_) (by with_unfolding_all rfl)
    generalize hn : its.toArray.toList.reverse.toArray = new
    have rn : Vals xs.reverse new.toList := by
      rw [← hn]
      simpa using rv.reverse
    refine ⟨.ref _, _, I5.laid (t' := s4.toks) (o := .frz { cls := .type "tuple", data := .seq new } (.tup xs.reverse)) (fun b ob z => Heap.get?_push_of_some _ z) (Nat.le_refl _) ⟨Heap.get?_push_size _ rfl, by rw [List.length_reverse]; exact hz, new.toList, rn, ?_⟩, rfl, q _ _ (I5.hok.fresh (Nat.le_refl _)) rfl⟩
    rw [Array.toArray_toList]
    exact IsTup.new _ _
end

/-! Mini R4: a tuple, a text so many times. -/
section
variable {X : Cx}
def rRepF (K : PySem.W.Frag) : R2 := fun x y H Q => ∃ (l : Addr) (k : Int) (xs : List V), x = .ref l ∧ y = .int k ∧ SqT K H l xs ∧ xs ≠ [] ∧ 2 ≤ k ∧ k ≤ 100000 ∧ xs.length ≤ 100 ∧
  ∀ (p : Addr) (o : Obj), H p = none → o.dict = none → Q (.ref p) (upd H p (.frz o (.tup (List.replicate k.toNat xs).flatten)))
theorem op_repF : OpR X (binaryOp .Mult) (rRepF X.K) := by
  intro pins s σ H x y v u Q I rx ry want
  obtain ⟨l, k, xs, rfl, rfl, lies, ne, k2, kM, few, q⟩ := want
  cases rx
  obtain ⟨tk, rfl⟩ := ry
  obtain ⟨cells, rel, ⟨⟨cl, dc, dt, so⟩, at1, cl1, n1, dt1⟩, _⟩ := I.tuple lies
  simp only at cl1 dt1
  subst cl1 dt1
  have same : cells.length = xs.length := rel.length.symm
  have pos : 0 < xs.length := List.length_pos_iff.mpr ne
  have full : cells.toArray.isEmpty = false := by
    match cells, same with
    | [], e => simp at e; omega
    | c :: r, _ => rfl
  have size : cells.toArray.size = xs.length := by rw [List.size_toArray]; exact same
  have many : ((cells.toArray.size : Nat) : Int) * k ≤ 10000000 := by
    rw [size]
    have := Int.mul_le_mul_of_nonneg_right (show ((xs.length : Nat) : Int) ≤ 100 by omega) (show (0 : Int) ≤ k by omega)
    omega
  have nat : k.toNat * xs.length ≤ 100000 * 100 := Nat.mul_le_mul (by omega) few
  have len : (List.replicate k.toNat cells).flatten.length ≤ sizeLine := by
    rw [PyProof.Rows.lm_len_rep_flat, same, sizeLine_eq]
    omega
  have d0 : (decide (k < -(2 ^ 63)) || decide (k ≥ 2 ^ 63)) = false := by
    rw [decide_eq_false (by omega), decide_eq_false (by omega)]
    rfl
  have d1 : (cells.toArray.isEmpty || k == 1) = false := by
    rw [full]
    exact beq_eq_false_iff_ne.mpr (by omega)
  have d2 : (decide (k ≤ 0) || cells.toArray.isEmpty) = false := by
    rw [full, decide_eq_false (by omega)]
    rfl
  have d4 : Builtin.Tuple.tupleTooMany (((cells.toArray.size : Nat) : Int) * k) = false := by
    unfold Builtin.Tuple.tupleTooMany
    rw [sizeLine_eq]
    exact decide_eq_false (by omega)
  have made := tuple_mulW l cells.toArray n1 dc so k tk d0 d1 d2 (by omega) d4 (by rw [size_rep, List.size_toArray]; exact len)
  refine wpAny_binaryOp_repeat_ref (T := "tuple") (U := "int") (by decide) ⟨_, at1, rfl⟩ (fun s2 => typeIs_int s2 k tk) noFill_tuple_mul F.fills_int_mul F.slot_int_rmul repeat_tuple F.slot_int_index.lookup ?_
  refine call_meets F.slot_int_rmul (typeIs_int s k tk) F.entry_int_rmul (F.args_int_rmul_2 _ _) (int_rmul_tuple k tk l cells.toArray n1 dc so) ⟨at1, rfl, ⟨_, at1, rfl⟩, ?_⟩
  refine call_meets F.slot_tuple_mul ⟨_, at1, rfl⟩ F.entry_tuple_mul (F.args_tuple_mul_2 _ _) made ⟨at1, ?_⟩
  rw [size_rep]
  have lay := I.laid (t' := s.toks) (a := s.heap.objs.size) (o := .frz { cls := .type "tuple", data := .seq (List.replicate k.toNat cells).flatten.toArray } (.tup (List.replicate k.toNat xs).flatten)) (fun b ob z => Heap.get?_push_of_some _ z) (Nat.le_refl _)
    ⟨Heap.get?_push_size _ rfl, by rw [PyProof.Rows.lm_len_rep_flat, sizeLine_eq]; omega, _, rel.rep k.toNat, IsTup.new _ _⟩
  exact ⟨.ref s.heap.objs.size, _, lay, rfl, q _ _ (I.hok.fresh (Nat.le_refl _)) rfl⟩
/-- a text so many times -/
def repS (z : Str) (k : Int) : Str := ⟨(List.replicate k.toNat z.cps).foldl (· ++ ·) #[]⟩
theorem repS_list (z : Str) (k : Int) : (repS z k).cps.toList = (List.replicate k.toNat z.cps.toList).flatten := by
  have key : ∀ (n : Nat) (acc : Array Nat), ((List.replicate n z.cps).foldl (· ++ ·) acc).toList = acc.toList ++ (List.replicate n z.cps.toList).flatten := by
    intro n
    induction n with
    | zero => intro acc; simp
    | succ n ih =>
      intro acc
      rw [List.replicate_succ, List.foldl_cons, ih, List.replicate_succ, List.flatten_cons, Array.toList_append, List.append_assoc]
  have := key k.toNat #[]
  simpa [repS] using this
theorem repS_len (z : Str) (k : Int) : (repS z k).length = k.toNat * z.length := by
  show (repS z k).cps.size = _
  rw [← Array.length_toList, repS_list, PyProof.Rows.lm_len_rep_flat, Array.length_toList]
  rfl
def rMulS : R2 := fun x y H Q => ∃ (z : Str) (k : Int), x = .str z ∧ y = .int k ∧ 2 ≤ k ∧ k ≤ 100000 ∧ 0 < z.length ∧ z.length ≤ 100 ∧ Q (.str (repS z k)) H
theorem op_mulS : OpR X (binaryOp .Mult) rMulS := by
  intro pins s σ H x y v u Q I rx ry want
  obtain ⟨z, k, rfl, rfl, k2, kM, z0, zM, q⟩ := want
  obtain ⟨t1, rfl⟩ := rx
  obtain ⟨t2, rfl⟩ := ry
  have nat : k.toNat * z.length ≤ 100000 * 100 := Nat.mul_le_mul (by omega) zM
  have small : (z.length : Int) ≤ (2 ^ 63 - 1) / k := by
    have a : (100 : Int) ≤ (2 ^ 63 - 1) / 100000 := by decide
    have b : ((2 : Int) ^ 63 - 1) / 100000 ≤ (2 ^ 63 - 1) / k := by
      apply Int.le_ediv_of_mul_le (by omega)
      have c := Int.mul_le_mul_of_nonneg_left (show k ≤ 100000 by omega) (show (0 : Int) ≤ (2 ^ 63 - 1) / 100000 by decide)
      have d : ((2 : Int) ^ 63 - 1) / 100000 * 100000 ≤ 2 ^ 63 - 1 := by decide
      omega
    omega
  have n1 : ¬ k < 1 := by omega
  have n2 : (k == 1 || z.length == 0) = false := by
    rw [Bool.or_eq_false_iff]
    exact ⟨beq_eq_false_iff_ne.mpr (by omega), beq_eq_false_iff_ne.mpr (by omega)⟩
  refine P.mul_str (by rw [decide_eq_false (by omega), decide_eq_false (by omega)]; rfl) (fun _ _ => by omega) (fun _ _ => ?_) ?_
  · unfold Builtin.Str.tooLong
    rw [sizeLine_eq, Nat.mul_comm]
    exact decide_eq_false (by omega)
  · rw [if_neg n1, if_neg (by rw [n2]; exact Bool.false_ne_true)]
    have l : (repS z k).length ≤ sizeLine := by
      rw [repS_len, sizeLine_eq]
      omega
    exact ⟨l, .str (repS z k), H, I.tok _, ⟨_, rfl⟩, q⟩
end

/-! Mini R5: a list so many times, the place of a number in a tuple, sorted(set(list of numbers)). -/
section
variable {X : Cx}
theorem vals_rep {xs : List V} {us : List Value} (r : Vals xs us) : ∀ k : Nat, Vals (List.replicate k xs).flatten (List.replicate k us).flatten
  | 0 => .nil
  | k + 1 => by
    rw [List.replicate_succ, List.replicate_succ, List.flatten_cons, List.flatten_cons]
    exact r.append (vals_rep r k)
def rRepL (K : PySem.W.Frag) : R2 := fun x y H Q => ∃ (l : Addr) (k : Int) (xs : List V), x = .ref l ∧ y = .int k ∧ SqL K H l xs ∧ 0 ≤ k ∧ k ≤ 100000 ∧ xs.length ≤ 100 ∧
  ∀ (p : Addr), H p = none → Q (.ref p) (upd H p (.lst (List.replicate k.toNat xs).flatten))
theorem op_repL : OpR X (binaryOp .Mult) (rRepL X.K) := by
  intro pins s σ H x y v u Q I rx ry want
  obtain ⟨l, k, xs, rfl, rfl, lies, k0, kM, few, q⟩ := want
  cases rx
  obtain ⟨tk, rfl⟩ := ry
  obtain ⟨cells, rel, ⟨⟨cl, dc, dt, so⟩, n1, at1, cl1, dn, dt1⟩, _⟩ := I.list lies
  simp only at cl1 dt1
  subst cl1 dt1
  have same : cells.length = xs.length := rel.length.symm
  have nat : cells.length * k.toNat ≤ 100 * 100000 := Nat.mul_le_mul (by omega) (by omega)
  have len : (List.replicate k.toNat cells).flatten.length ≤ sizeLine := by
    rw [PyProof.Rows.lm_len_rep_flat, sizeLine_eq, Nat.mul_comm]
    omega
  refine wpAny_binaryOp_repeat_ref (T := "list") (U := "int") (by decide) ⟨_, at1, rfl⟩ (fun s2 => typeIs_int s2 k tk) noFill_list_mul F.fills_int_mul F.slot_int_rmul repeat_list F.slot_int_index.lookup ?_
  refine call_meets F.slot_int_rmul (typeIs_int s k tk) F.entry_int_rmul (F.args_int_rmul_2 _ _) (lm_int_rmul_list_any k tk l cells.toArray n1 dc so) ⟨at1, rfl, ⟨_, at1, rfl⟩, ?_⟩
  have hs2 : cells.toArray.size * k.toNat ≤ 100 * 100000 := by simpa using nat
  refine call_meets F.slot_list_mul ⟨_, at1, rfl⟩ F.entry_list_mul (F.args_list_mul_2 _ _) (lm_list_mul_any l cells.toArray n1 dc so k tk (by simp [Builtin.List.listFitsIndex]; omega) (by omega) (by simp [Builtin.List.listTooLong, sizeLine]; omega)) ⟨at1, ?_⟩
  rw [listMul_foldl_if]
  have lay := I.laid (t' := s.toks) (a := s.heap.objs.size) (o := .lst (List.replicate k.toNat xs).flatten) (h' := s.heap.push { cls := Value.type "list", data := Data.seq (List.replicate k.toNat cells).flatten.toArray }) (fun b ob z => Heap.get?_push_of_some _ z) (Nat.le_refl _)
    ⟨by rw [(vals_rep rel k.toNat).length]; exact len, _, _, vals_rep rel k.toNat, Heap.get?_push_size _ rfl⟩
  exact ⟨.ref s.heap.objs.size, _, lay, rfl, q _ (I.hok.fresh (Nat.le_refl _))⟩

/-! ### the place of a number -/
theorem mt_tup_indexI : MtR X "tuple.index" (fun x xs H Q => ∃ p, ∃ ys : List Int, ∃ z, x = .ref p ∧ xs = [.int z] ∧ SqT X.K H p (ys.map V.int) ∧ z ∈ ys ∧ Q (.int (ys.idxOf z : Nat)) H) := by
  intro pins s σ H x xs v us Q I rx rs h
  obtain ⟨p, ys, z, rfl, rfl, hq, hy, q⟩ := h
  cases rx
  cases rs with
  | cons ry rt =>
    cases rt
    obtain ⟨t, rfl⟩ := ry
    obtain ⟨its, r, pl, hz⟩ := I.tuple hq
    exact PySem.SeqAt.tuple_index_ints pl r.ints hy ⟨.int (ys.idxOf z : Nat), H, I.tok _, ⟨_, rfl⟩, q⟩
end
section
variable {P : Program} {w : World} {A : Around} {E : Value → Shared → Prop} {s : Shared}
abbrev newS (w : World) : Obj := { cls := .type "set", dict := none, data := .set #[] 0 (.fresh 0 0 (!w.params.followText "set-order")) }
set_option maxHeartbeats 8000000 in
/-- set(xs), xs a list of numbers -/
theorem call_set_lstI {l : Addr} {its : Array Value} {ns : List Int} {Q : Value → Shared → Prop} (hh : A.handled = none) (tp : s.heap.IsList l its) (rv : IntsAre its.toList ns) (few : ns.length + 1 < scanBound)
    (q : ∀ (g : Heap) (tk c : Nat), SetR w g s.heap.objs.size (fun j => decide (j ∈ ns)) c → (∀ b o, s.heap.get? b = some o → g.get? b = some o) → Q (.ref s.heap.objs.size) { s with heap := g, toks := tk }) : wpAny (model P w) A (call (.type "set") [.ref l]) Q E s := by
  have CS := F.called_set
  obtain ⟨mc, mt, hmro⟩ := CS.mro
  have m1 := CS.made
  have m2 := CS.sub
  have m3 := CS.notType
  have m4 := CS.canCreate
  have m5 := F.typeCall_set_1 (.ref l)
  refine wpAny_call (codeAny_of_tree (show wpAny _ _ (callAny (.type "set") _) _ _ _ from wpAny_pure ⟨Code.quiet_builtin _ (by decide +kernel), codeAny_builtin F.entry_type_call ?_⟩))
  rw [Around.under_plain (weight_type_call_type "set" [.ref l] []) rfl]
  repeat (any_goals (first | assumption | wp_step))
  have nlen : its.size = ns.length := by have z := rv.length; rw [Array.length_toList] at z; exact z
  refine codeAny_mono (code_set_led1 (.ref l) (E := E) (Q₁ := fun ob t => ob = .ref s.heap.objs.size ∧ t = { s with heap := s.heap.push (newS w) }) ⟨rfl, rfl⟩) fun r t hr => ?_
  match r, hr with
  | .error e, hr => exact hr
  | .ok .next, hr => exact hr.elim
  | .ok .brk, hr => exact hr.elim
  | .ok .cont, hr => exact hr.elim
  | .ok (.ret ob), hr =>
    obtain ⟨e1, e2⟩ := hr
    subst e1 e2
    have hS : (s.heap.push (newS w)).get? s.heap.objs.size = some (newS w) := Heap.get?_push_size _ rfl
    have ty : Shared.TypeIs { s with heap := s.heap.push (newS w) } (.ref s.heap.objs.size) "set" := ⟨_, hS, rfl⟩
    have i1 := CS.init.lookup
    have i2 := CS.init.bind (.ref s.heap.objs.size)
    repeat (any_goals (first | assumption | wp_step))
    refine codeAny_mono (codeAny_call_builtin (R := wants (fun r t => r = .none ∧ ∃ g tk c, t = { s with heap := g, toks := tk } ∧ SetR w g s.heap.objs.size (fun j => decide (j ∈ ns)) c ∧ ∀ b o, s.heap.get? b = some o → g.get? b = some o) E) CS.init.plain F.entry_set_init (check_set_init_1 ty ?_)) fun r t hr => ?_
    · have tp1 : (s.heap.push (newS w)).IsList l its := tp.push _
      obtain ⟨⟨oc, od, odt, osl⟩, ho, hc, nn, hd⟩ := id tp1
      simp only at hc hd
      subst hc hd
      have n1 := F.sub_list_set
      have n2 := F.sub_list_frozenset
      have n3 : (Value.type "list" == Value.type "dict") = false := by decide
      have lt0 : l < s.heap.objs.size := by obtain ⟨_, z, _⟩ := id tp; exact Heap.lt_size z
      unfold Builtin.«set.__init__» noKeywords Builtin.Frozenset.updateFrom
      generalize hPI : pyIter = PI
      wp_walk
      subst hPI
      have sz1 : (s.heap.push (newS w)).objs.size = s.heap.objs.size + 1 := Heap.size_push ..
      have apart : l ≠ (s.heap.push (newS w)).objs.size := by rw [sz1]; exact Nat.ne_of_lt (Nat.lt_succ_of_lt lt0)
      refine wpAny_pyIter_list tp1 ?_
      refine wpAny_bind (wpAny_runValue ?_)
      refine set_update_ints ((Walks.list (by simp [hh]) _ l apart its).toS) s.heap.objs.size (by rw [sz1]; simp only [List.mem_cons, List.not_mem_nil, or_false, not_or]; exact ⟨Nat.ne_of_lt (Nat.lt_succ_self _), Nat.ne_of_gt lt0⟩) ns nlen few (fun i v hv => ?_) its.size 0 _ (by omega) (Nat.zero_le _) ⟨⟨_, Heap.get?_push_size _ rfl, rfl, rfl⟩, tp1.push _⟩ ?_ fun u c mv hc hk => ?_
      · have lt : i < ns.length := by rw [← nlen]; exact (Array.getElem?_eq_some_iff.mp hv).1
        obtain ⟨tt, e⟩ := PyProof.Rows.IntsAre.int_at rv i v (by rw [Array.getElem?_toList]; exact hv)
        refine ⟨ns[i], tt, List.getElem?_eq_getElem lt, ?_⟩
        rw [e, List.getD_eq_getElem?_getD, List.getElem?_eq_getElem lt] <;> rfl
      · exact ⟨0, Nat.le_refl 0, setR_new_at (Heap.get?_push_of_some { cls := .type "list_iterator", data := .fields #[.ref l, .int 0 0] } hS)⟩
      · obtain ⟨g, g2, d2, tk, os2⟩ := u
        obtain rfl : g2 = s.gens := mv.gens
        obtain rfl : d2 = s.drawn := mv.drawn
        obtain rfl : os2 = s.os := mv.os
        refine show wpAny _ _ _ _ _ _ from wpAny_pure (show wpAny _ _ (ret Value.none) _ _ _ from wpAny_pure ⟨rfl, g, tk, c, rfl, hk, fun b o z => ?_⟩)
        have lb : b < s.heap.objs.size := Heap.lt_size z
        refine mv.heap b o ?_ (Heap.get?_push_of_some _ (Heap.get?_push_of_some _ z))
        rw [sz1]
        simp only [List.mem_cons, List.not_mem_nil, or_false, not_or]
        exact ⟨Nat.ne_of_lt lb, Nat.ne_of_lt (Nat.lt_succ_of_lt lb)⟩
    · match r, hr with
      | .error e, hr => exact hr
      | .ok .next, hr => exact hr.elim
      | .ok .brk, hr => exact hr.elim
      | .ok .cont, hr => exact hr.elim
      | .ok (.ret ob), hr =>
        obtain ⟨e1, g, tk, c, e2, hk, keep⟩ := hr
        subst e1 e2
        repeat (any_goals (first | assumption | wp_step))
        exact q _ _ c hk keep
end
/-! ### the members in order -/
def insU (x : Int) : List Int → List Int
  | [] => [x]
  | y :: r => if x < y then x :: y :: r else if x = y then y :: r else y :: insU x r
def sortU (ns : List Int) : List Int := ns.foldr insU []
theorem mem_insU {x z : Int} : ∀ l : List Int, z ∈ insU x l ↔ z = x ∨ z ∈ l
  | [] => by simp [insU]
  | y :: r => by
    unfold insU
    split
    · simp
    · split
      · rename_i h
        subst h
        simp
      · rw [List.mem_cons, mem_insU r, List.mem_cons]
        exact ⟨fun h => h.elim (fun h => .inr (.inl h)) fun h => h.elim .inl fun h => .inr (.inr h), fun h => h.elim (fun h => .inr (.inl h)) fun h => h.elim .inl fun h => .inr (.inr h)⟩
theorem pw_insU {x : Int} : ∀ {l : List Int}, l.Pairwise (· < ·) → (insU x l).Pairwise (· < ·)
  | [], _ => by simp [insU]
  | y :: r, h => by
    obtain ⟨h1, h2⟩ := List.pairwise_cons.mp h
    unfold insU
    split
    · rename_i lt
      refine List.pairwise_cons.mpr ⟨fun z hz => ?_, h⟩
      rcases List.mem_cons.mp hz with e | m
      · omega
      · have := h1 z m; omega
    · split
      · exact h
      · refine List.pairwise_cons.mpr ⟨fun z hz => ?_, pw_insU h2⟩
        rcases (mem_insU r).mp hz with e | m
        · omega
        · exact h1 z m
theorem mem_sortU {z : Int} : ∀ ns : List Int, z ∈ sortU ns ↔ z ∈ ns
  | [] => by simp [sortU]
  | n :: ns => by
    show z ∈ insU n (sortU ns) ↔ _
    rw [mem_insU, mem_sortU ns, List.mem_cons]
theorem pw_sortU : ∀ ns : List Int, (sortU ns).Pairwise (· < ·)
  | [] => List.Pairwise.nil
  | n :: ns => pw_insU (pw_sortU ns)
theorem same_of_pw : ∀ {a b : List Int}, a.Pairwise (· < ·) → b.Pairwise (· < ·) → (∀ z, z ∈ a ↔ z ∈ b) → a = b
  | [], [], _, _, _ => rfl
  | [], y :: b, _, _, h => absurd ((h y).mpr List.mem_cons_self) (by simp)
  | x :: a, [], _, _, h => absurd ((h x).mp List.mem_cons_self) (by simp)
  | x :: a, y :: b, ha, hb, h => by
    obtain ⟨a1, a2⟩ := List.pairwise_cons.mp ha
    obtain ⟨b1, b2⟩ := List.pairwise_cons.mp hb
    have e : x = y := by
      rcases List.mem_cons.mp ((h x).mp List.mem_cons_self) with e | m
      · exact e
      · rcases List.mem_cons.mp ((h y).mpr List.mem_cons_self) with e | m2
        · exact e.symm
        · have := b1 x m
          have := a1 y m2
          omega
    subst e
    rw [same_of_pw a2 b2 fun z => ⟨fun m => ?_, fun m => ?_⟩]
    · rcases List.mem_cons.mp ((h z).mp (List.mem_cons_of_mem _ m)) with e | m2
      · subst e
        have := a1 z m
        omega
      · exact m2
    · rcases List.mem_cons.mp ((h z).mpr (List.mem_cons_of_mem _ m)) with e | m2
      · subst e
        have := b1 z m
        omega
      · exact m2
theorem nodup_pw : ∀ {l : List Int}, l.Pairwise (· < ·) → l.Nodup
  | [], _ => List.nodup_nil
  | x :: l, h => by
    obtain ⟨h1, h2⟩ := List.pairwise_cons.mp h
    exact List.nodup_cons.mpr ⟨fun m => by have := h1 x m; omega, nodup_pw h2⟩
theorem nodup_le : ∀ {a b : List Int}, a.Nodup → (∀ z ∈ a, z ∈ b) → a.length ≤ b.length
  | [], _, _, _ => Nat.zero_le _
  | x :: a, b, nd, h => by
    obtain ⟨n1, n2⟩ := List.nodup_cons.mp nd
    have m := h x List.mem_cons_self
    have z := nodup_le (b := b.erase x) n2 fun z hz => (List.mem_erase_of_ne (a := z) (b := x) (fun e : z = x => n1 (by rw [← e]; exact hz))).mpr (h z (List.mem_cons_of_mem _ hz))
    rw [List.length_erase_of_mem m] at z
    have : 0 < b.length := List.length_pos_of_mem m
    rw [List.length_cons]
    omega
theorem setR_few {w : World} {h : Heap} {a : Addr} {ns : List Int} {c : Nat} (R : SetR w h a (fun j => decide (j ∈ ns)) c) : c ≤ (sortU ns).length := by
  obtain ⟨o, es, ep, t, _, _, _, _, nd, hm, _, _, hn, _⟩ := R
  have sub : ∀ z ∈ es.toList.map L2.keyOf, z ∈ sortU ns := fun z hz => (mem_sortU ns).mpr (of_decide_eq_true ((hm z).mpr hz))
  have := nodup_le nd sub
  rw [List.length_map, Array.length_toList, hn] at this
  exact this
section
variable {X : Cx}
/-- sorted(set(xs)) -/
def tSortSet (K : PySem.W.Frag) (ta : TE) : TE := fun σ H Q => ta σ H fun x H1 => ∃ (l : Addr) (ns : List Int), x = .ref l ∧ SqL K H1 l (ns.map V.int) ∧ ns.length + 1 < scanBound ∧ (sortU ns).length < 64 ∧ ∀ p, H1 p = none → Q (.ref p) (upd H1 p (.lst ((sortU ns).map V.int)))
theorem pe_sortSet {a : Expr} {ta : TE} {p p2 q pos : Pos} (hc : X.calm = true) (hg : Gl X "sorted") (hm : X.mg "sorted" = none) (hg2 : Gl X "set") (hm2 : X.mg "set" = none) (ha : PE X a ta) (na : starEach [a] X.env = (false, eval a X.env) :: starEach [] X.env) :
    PE X (.Call (.Name "sorted" p) [.Call (.Name "set" p2) [a] [] q] [] pos) (tSortSet X.K ta) := by
  refine ⟨fun pins s σ H Q I h => Call_ (ld_blt I hg hm boot_sorted (callWith_builtin1 (args_cons (Call_ (ld_blt I hg2 hm2 boot_set (callWith_type1 (args_cons (thn (ha.run pins s σ H _ I h) fun v t ⟨x, H1, I1, r1, q1⟩ => args_nil ?_) na) na rfl))) rfl) rfl rfl))⟩
  obtain ⟨l, ns, ex, hq, few, f64, q1⟩ := q1
  subst ex
  obtain rfl : v = Value.ref l := r1
  obtain ⟨its, rv, tp, hz⟩ := I1.list hq
  refine call_set_lstI (ns := ns) (I1.ok.hd hc) tp.isList (by simpa using rv.ints) few fun g tk c R keep => args_nil ?_
  have I2 : Inv X pins σ H1 { t with heap := g, toks := tk } := I1.kept keep
  refine sorted_set R (I1.ok.hd hc) (Nat.lt_of_le_of_lt (setR_few R) f64) fun s' p2 out c2 ms k g2 o2 hp hg3 hi hs hmem hl => ?_
  have em : ms = sortU ns := same_of_pw hs (pw_sortU ns) fun z => by rw [hmem, mem_sortU, decide_eq_true_eq]
  subst em
  have hn : H1 p2 = none := I2.hok.fresh hp
  have hlen : ((sortU ns).map V.int).length ≤ sizeLine := by rw [List.length_map, sizeLine_eq]; omega
  have J : Inv X pins σ (upd H1 p2 (.lst ((sortU ns).map V.int))) { ({ t with heap := g, toks := tk } : Shared) with heap := s'.heap, gens := s'.gens, drawn := s'.drawn, toks := s'.toks } :=
    I2.call (ch := []) (Un.laid k hp hn) (I2.hok.laid k hp ⟨hlen, out.toList, c2, vals_of_ints hi, hg3⟩) (by rw [g2]; exact I2.bare) (fun _ z => nomatch z)
  have e : s' = { ({ t with heap := g, toks := tk } : Shared) with heap := s'.heap, gens := s'.gens, drawn := s'.drawn, toks := s'.toks } := by
    cases s'
    cases o2
    rfl
  rw [e]
  exact ⟨.ref p2, _, J, rfl, q1 p2 hn⟩
end

/-! Mini R6: range(a, b) of any whole numbers. -/
theorem turn_long {P : Program} {w : World} {K : PySem.W.Frag} {tg : Expr} (it : Addr) (lo : Int) (n : Nat) : Turn P w K tg (Itr lo n) [it] it (fun i h => IsLongIter h it (lo + (i : Nat) * 1) ((n : Int) - (i : Nat)) 1) where
  mem := by simp
  obj := fun i h st b hb => by
    have e : b = it := by simpa using hb
    subst e
    exact ⟨_, st, fun v z => by
      have z' : Data.fields _ = Data.cell v := z
      cases z'⟩
  keep := fun i h h' st k => k it (by simp) _ st
  item := by
    intro X hP hw hK hc i pins s σ H E I hf st hg
    subst hP hw hK
    obtain ⟨f0, f1, f2, f3, f4, f5⟩ := hf it (by simp)
    have W := Walks.longrange (prog := X.prog) (w := X.w) (I.ok.hd hc) it lo 1 n
    refine W.item i s _ _ hg st fun v h' tk hv st' kk => ?_
    obtain ⟨t, rfl⟩ := hv
    have I1 : Inv X pins σ H { s with heap := h', toks := tk } := I.turned (fun b o hb e => kk b o (by simpa using hb) e) f0 f1 f3 f4 f5
    refine ⟨_, rfl, go_of (s := { s with heap := h', toks := tk }) (n := "longrange_iterator") st' rfl rfl (by decide) ⟨.int (lo + i), H, I1, ⟨t, ?_⟩, ⟨rfl, rfl⟩, st', fun b hb => (hf b hb).1⟩⟩
    rw [Int.mul_one]
  done := by
    intro X hP hw hK hc i pins s σ H E I hf st hg
    subst hP hw hK
    obtain ⟨f0, f1, f2, f3, f4, f5⟩ := hf it (by simp)
    exact wpAny_pyNext_long_end (I.ok.hd hc) st (by have : n ≤ i := hg; omega) fun h' eb => ⟨rfl, I.turned (t' := s.toks) (fun b o hb e => eb b o hb e) f0 f1 f3 f4 f5⟩
  self := fun _ _ _ _ _ st h => wpAny_pyIter_longiter st h
section
variable {X : Cx} {tg : Expr}
theorem range_any {pins : List (Addr × Obj)} {σ : L2.St} {H : Hp} {s : Shared} {R : L2.It → Hp → Prop} {E : Value → Shared → Prop} {lo hi : Int} {t u v : Tok} {tk : Nat} (I : Inv X pins σ H s)
    (q : R (Itr lo (hi - lo).toNat) H) : wpAny (model X.prog X.w) X.A (pyIter (.ref s.heap.objs.size)) (PIE X pins σ tg R) E { s with heap := s.heap.push { cls := .type "range", data := .fields #[.int lo t, .int hi u, .int 1 v] }, toks := tk } := by
  have I1 : Inv X pins σ H { s with heap := s.heap.push { cls := .type "range", data := .fields #[.int lo t, .int hi u, .int 1 v] }, toks := tk } := I.kept fun b o e => Heap.get?_push_of_some _ e
  have e1 : lo + ((0 : Nat) : Int) * 1 = lo := by simp
  have e2 : (((hi - lo).toNat : Nat) : Int) - ((0 : Nat) : Int) = Builtin.Range.rangeSize lo hi 1 := by rw [rangeSize_one]; split <;> omega
  by_cases hs : Builtin.Range.small lo hi 1 = true
  · refine wpAny_pyIter_range (IsRange.new ..) hs ?_
    refine ⟨(s.heap.push { cls := .type "range", data := .fields #[.int lo t, .int hi u, .int 1 v] }).objs.size, [(s.heap.push { cls := .type "range", data := .fields #[.int lo t, .int hi u, .int 1 v] }).objs.size], _, _, H, rfl,
      I1.kept (t' := tk) fun b o e => Heap.get?_push_of_some _ e, turn_range _ lo (hi - lo).toNat, ?_, fun b hb => ?_, q⟩
    · show IsRangeIter _ _ (lo + ((0 : Nat) : Int) * 1) ((((hi - lo).toNat : Nat) : Int) - ((0 : Nat) : Int)) 1
      rw [e1, e2]
      exact Heap.get?_push_size _ rfl
    · have e : b = (s.heap.push { cls := .type "range", data := .fields #[.int lo t, .int hi u, .int 1 v] }).objs.size := by simpa using hb
      subst e
      exact I1.fpOk (Nat.le_refl _) (I1.hok.fresh (Nat.le_refl _))
  · refine wpAny_pyIter_longrange (IsRange.new ..) (by simpa using hs) ?_
    refine ⟨(s.heap.push { cls := .type "range", data := .fields #[.int lo t, .int hi u, .int 1 v] }).objs.size, [(s.heap.push { cls := .type "range", data := .fields #[.int lo t, .int hi u, .int 1 v] }).objs.size], _, _, H, rfl,
      I1.kept (t' := tk) fun b o e => Heap.get?_push_of_some _ e, turn_long _ lo (hi - lo).toNat, ?_, fun b hb => ?_, q⟩
    · show IsLongIter _ _ (lo + ((0 : Nat) : Int) * 1) ((((hi - lo).toNat : Nat) : Int) - ((0 : Nat) : Int)) 1
      rw [e1, e2]
      exact Heap.get?_push_size _ rfl
    · have e : b = (s.heap.push { cls := .type "range", data := .fields #[.int lo t, .int hi u, .int 1 v] }).objs.size := by simpa using hb
      subst e
      exact I1.fpOk (Nat.le_refl _) (I1.hok.fresh (Nat.le_refl _))
def iRngA (ta : TA) : TI := fun σ H R => ta σ H fun vs H1 => ∃ i j : Int, vs = [.int i, .int j] ∧ R (Itr i (j - i).toNat) H1
theorem pi_rangeA {a b : Expr} {ta : TA} {p pos : Pos} (hg : Gl X "range") (hm : X.mg "range" = none) (ha : PA X [a, b] ta) (hs : starEach [a, b] X.env = [(false, eval a X.env), (false, eval b X.env)] := by rfl) (hs2 : starEach [b] X.env = [(false, eval b X.env)] := by rfl) :
    PI X tg (.Call (.Name "range" p) [a, b] [] pos) (iRngA ta) := by
  refine ⟨fun pins s σ H R I h => ?_⟩
  refine Call_ (ld_blt I hg hm boot_range (PyProof.Rows.callWith_type1 (thn (ha.run pos pins s σ H _ I h) fun us s1 ⟨vs, H1, I1, r1, q1⟩ => ?_) (by rw [hs, hs2]) (by rw [hs2]; rfl)))
  obtain ⟨i, j, e, q⟩ := q1
  subst e
  cases r1 with
  | cons r rr =>
    cases rr with
    | cons r' rr =>
      cases rr
      obtain ⟨t, rfl⟩ := r
      obtain ⟨t', rfl⟩ := r'
      exact call_range_2 (range_any I1 q)
end

/-! Mini 1: data as trees, shared things by number, and how they lie in the abstract heap. -/

/-- a value of the program: numbers, texts, tuples and lists as trees; ref n: the n-th shared thing that may still be written -/
inductive D where
  | non | bl (b : Bool) | int (i : Int) | str (x : Str)
  | tup (xs : List D) | lst (xs : List D) | ref (n : Nat)
  /-- a tuple that a walk hands out (enumerate, zip) -/
  | wtup (xs : List D)
  /-- a dict with texts as keys, never written any more -/
  | dict (ks : List Str) (ds : List D)
  /-- a def as a value: its number, its name -/
  | fn (j : Nat) (x : Str)

/-- a shared thing -/
inductive MO where
  | lst (xs : List D)
  /-- a dict with texts as keys -/
  | dic (ks : List Str) (ds : List D)
  | gone
abbrev Hm := List MO
abbrev Sg := List (Option D)

/-- a tuple, a list as it lies: tracked and not written any more, or the module's own -/
def LieT (K : PySem.W.Frag) (H : Hp) (M : Addr → Prop) (a : Addr) (vs : List V) : Prop :=
  (∃ o, H a = some (.frz o (.tup vs)) ∧ o.dict = none ∧ ¬ M a) ∨
    ∃ (o : Obj) (its : Array Value) (n : Nat), K.lookup a = some o ∧ o.cls = .type "tuple" ∧ o.dict = none ∧ o.data = .seq its n ∧ its.size ≤ sizeLine ∧ Vals vs its.toList
def LieW (K : PySem.W.Frag) (H : Hp) (M : Addr → Prop) (a : Addr) (vs : List V) : Prop := Rd H a (.tup vs) ∧ ¬ M a
def LieL (K : PySem.W.Frag) (H : Hp) (M : Addr → Prop) (a : Addr) (vs : List V) : Prop :=
  (Rd H a (.lst vs) ∧ ¬ M a) ∨
    ∃ (o : Obj) (its : Array Value) (n : Nat), K.lookup a = some o ∧ o.cls = .type "list" ∧ o.dict = none ∧ o.data = .seq its n ∧ its.size ≤ sizeLine ∧ Vals vs its.toList
/-- texts as keys -/
def kz (ks : List Str) (vs : List V) : List (Key × V) := (ks.map Sum.inr).zip vs
def LieK (H : Hp) (M : Addr → Prop) (a : Addr) (ks : List Str) (vs : List V) : Prop := Rd H a (.dK (kz ks vs)) ∧ ¬ M a ∧ ks.length = vs.length
theorem LieT.sq {K : PySem.W.Frag} {H : Hp} {M : Addr → Prop} {a : Addr} {vs : List V} (h : LieT K H M a vs) : SqT K H a vs := by
  rcases h with ⟨o, h, _, _⟩ | ⟨o, its, n, h1, h2, _, h3, h4, h5⟩
  · exact .inl (.inr ⟨o, h⟩)
  · exact .inr ⟨o, its, n, h1, h2, h3, h4, h5⟩
theorem LieW.sq {K : PySem.W.Frag} {H : Hp} {M : Addr → Prop} {a : Addr} {vs : List V} (h : LieW K H M a vs) : SqT K H a vs := .inl h.1
theorem LieL.sq {K : PySem.W.Frag} {H : Hp} {M : Addr → Prop} {a : Addr} {vs : List V} (h : LieL K H M a vs) : SqL K H a vs := h.imp (·.1) id

mutual
inductive RD (K : PySem.W.Frag) (H : Hp) (ρ : List Addr) (M : Addr → Prop) : D → V → Prop
  | non : RD K H ρ M .non .non
  | bl (b : Bool) : RD K H ρ M (.bl b) (.bl b)
  | int (i : Int) : RD K H ρ M (.int i) (.int i)
  | str (x : Str) : RD K H ρ M (.str x) (.str x)
  | tup {a : Addr} {xs : List D} {vs : List V} : LieT K H M a vs → RDs K H ρ M xs vs → RD K H ρ M (.tup xs) (.ref a)
  | lst {a : Addr} {xs : List D} {vs : List V} : LieL K H M a vs → RDs K H ρ M xs vs → RD K H ρ M (.lst xs) (.ref a)
  | ref {n : Nat} {a : Addr} : ρ[n]? = some a → RD K H ρ M (.ref n) (.ref a)
  | wtup {a : Addr} {xs : List D} {vs : List V} : LieW K H M a vs → RDs K H ρ M xs vs → RD K H ρ M (.wtup xs) (.ref a)
  | dict {a : Addr} {ks : List Str} {xs : List D} {vs : List V} : LieK H M a ks vs → RDs K H ρ M xs vs → RD K H ρ M (.dict ks xs) (.ref a)
  | fn {a : Addr} {j : Nat} {x : Str} : PySem.W.nsIn K mainGlobals x = some (some (.ref a)) → RD K H ρ M (.fn j x) (.ref a)
inductive RDs (K : PySem.W.Frag) (H : Hp) (ρ : List Addr) (M : Addr → Prop) : List D → List V → Prop
  | nil : RDs K H ρ M [] []
  | cons {d : D} {v : V} {ds : List D} {vs : List V} : RD K H ρ M d v → RDs K H ρ M ds vs → RDs K H ρ M (d :: ds) (v :: vs)
end

section
variable {K : PySem.W.Frag} {H H' : Hp} {ρ ρ' : List Addr} {M M' : Addr → Prop}
/-- what keeps all that lies -/
structure Kps (H : Hp) (ρ : List Addr) (M : Addr → Prop) (H' : Hp) (ρ' : List Addr) (M' : Addr → Prop) : Prop where
  obj : ∀ a o, H a = some o → ¬ M a → H' a = some o ∧ ¬ M' a
  ref : ∀ (n : Nat) (a : Addr), ρ[n]? = some a → ρ'[n]? = some a
theorem Kps.rd (k : Kps H ρ M H' ρ' M') {a : Addr} {u : HO} (h : Rd H a u) (n : ¬ M a) : Rd H' a u ∧ ¬ M' a := by
  rcases h with h | ⟨o, h⟩
  · obtain ⟨h1, h2⟩ := k.obj _ _ h n
    exact ⟨.inl h1, h2⟩
  · obtain ⟨h1, h2⟩ := k.obj _ _ h n
    exact ⟨.inr ⟨o, h1⟩, h2⟩
theorem LieT.mono (k : Kps H ρ M H' ρ' M') {a : Addr} {vs : List V} (h : LieT K H M a vs) : LieT K H' M' a vs := by
  rcases h with ⟨o, h, d, n⟩ | h
  · obtain ⟨h1, h2⟩ := k.obj _ _ h n
    exact .inl ⟨o, h1, d, h2⟩
  · exact .inr h
theorem LieW.mono (k : Kps H ρ M H' ρ' M') {a : Addr} {vs : List V} (h : LieW K H M a vs) : LieW K H' M' a vs := k.rd h.1 h.2
theorem LieK.mono (k : Kps H ρ M H' ρ' M') {a : Addr} {ks : List Str} {vs : List V} (h : LieK H M a ks vs) : LieK H' M' a ks vs := ⟨(k.rd h.1 h.2.1).1, (k.rd h.1 h.2.1).2, h.2.2⟩
theorem LieL.mono (k : Kps H ρ M H' ρ' M') {a : Addr} {vs : List V} (h : LieL K H M a vs) : LieL K H' M' a vs := by
  rcases h with ⟨h, n⟩ | h
  · exact .inl (k.rd h n)
  · exact .inr h
mutual
theorem RD.mono (k : Kps H ρ M H' ρ' M') : ∀ {d : D} {v : V}, RD K H ρ M d v → RD K H' ρ' M' d v
  | .non, _, h => by cases h; exact .non
  | .bl _, _, h => by cases h; exact .bl _
  | .int _, _, h => by cases h; exact .int _
  | .str _, _, h => by cases h; exact .str _
  | .tup xs, _, h => by
    cases h with
    | tup l r => exact .tup (l.mono k) (RDs.mono k r)
  | .lst xs, _, h => by
    cases h with
    | lst l r => exact .lst (l.mono k) (RDs.mono k r)
  | .ref n, _, h => by
    cases h with
    | ref e => exact .ref (k.ref _ _ e)
  | .wtup xs, _, h => by
    cases h with
    | wtup l r => exact .wtup (l.mono k) (RDs.mono k r)
  | .dict ks xs, _, h => by
    cases h with
    | dict l r => exact .dict (l.mono k) (RDs.mono k r)
  | .fn j x, _, h => by
    cases h with
    | fn e => exact .fn e
theorem RDs.mono (k : Kps H ρ M H' ρ' M') : ∀ {ds : List D} {vs : List V}, RDs K H ρ M ds vs → RDs K H' ρ' M' ds vs
  | [], _, h => by cases h; exact .nil
  | d :: ds, _, h => by
    cases h with
    | cons a b => exact .cons (RD.mono k a) (RDs.mono k b)
end
theorem RDs.length : ∀ {ds : List D} {vs : List V}, RDs K H ρ M ds vs → ds.length = vs.length
  | [], _, h => by cases h; rfl
  | d :: ds, _, h => by
    cases h with
    | cons a b => simp [RDs.length b]
theorem RDs.get : ∀ {ds : List D} {vs : List V} {i : Nat} {d : D}, RDs K H ρ M ds vs → ds[i]? = some d → ∃ v, vs[i]? = some v ∧ RD K H ρ M d v
  | [], _, _, _, _, e => by simp at e
  | d :: ds, _, 0, _, h, e => by
    cases h with
    | cons a b =>
      have e' : d = _ := Option.some.inj e
      subst e'
      exact ⟨_, rfl, a⟩
  | d :: ds, _, i + 1, _, h, e => by
    cases h with
    | cons a b =>
      obtain ⟨v, h1, h2⟩ := RDs.get (i := i) b (by simpa using e)
      exact ⟨v, by simpa using h1, h2⟩
theorem RDs.get' : ∀ {ds : List D} {vs : List V} {i : Nat} {v : V}, RDs K H ρ M ds vs → vs[i]? = some v → ∃ d, ds[i]? = some d ∧ RD K H ρ M d v
  | _, [], _, _, _, e => by simp at e
  | _, v :: vs, 0, _, h, e => by
    cases h with
    | cons a b =>
      have e' : v = _ := Option.some.inj e
      subst e'
      exact ⟨_, rfl, a⟩
  | _, v :: vs, i + 1, _, h, e => by
    cases h with
    | cons a b =>
      obtain ⟨d, h1, h2⟩ := RDs.get' (i := i) b (by simpa using e)
      exact ⟨d, by simpa using h1, h2⟩
theorem RDs.append : ∀ {ds es : List D} {vs ws : List V}, RDs K H ρ M ds vs → RDs K H ρ M es ws → RDs K H ρ M (ds ++ es) (vs ++ ws)
  | [], _, _, _, h, g => by cases h; exact g
  | d :: ds, _, _, _, h, g => by
    cases h with
    | cons a b => exact .cons a (RDs.append b g)
theorem RDs.take : ∀ {ds : List D} {vs : List V} (n : Nat), RDs K H ρ M ds vs → RDs K H ρ M (ds.take n) (vs.take n)
  | _, _, 0, _ => by simp; exact .nil
  | [], _, _ + 1, h => by cases h; exact .nil
  | d :: ds, _, n + 1, h => by
    cases h with
    | cons a b => exact .cons a (RDs.take n b)
theorem RDs.drop : ∀ {ds : List D} {vs : List V} (n : Nat), RDs K H ρ M ds vs → RDs K H ρ M (ds.drop n) (vs.drop n)
  | _, _, 0, h => h
  | [], _, _ + 1, h => by cases h; exact .nil
  | d :: ds, _, n + 1, h => by
    cases h with
    | cons a b => exact RDs.drop n b
theorem RDs.set : ∀ {ds : List D} {vs : List V} (i : Nat) {d : D} {v : V}, RDs K H ρ M ds vs → RD K H ρ M d v → RDs K H ρ M (ds.set i d) (vs.set i v)
  | [], _, _, _, _, h, _ => by cases h; exact .nil
  | x :: ds, _, 0, _, _, h, r => by
    cases h with
    | cons a b => exact .cons r b
  | x :: ds, _, i + 1, _, _, h, r => by
    cases h with
    | cons a b => exact .cons a (RDs.set i b r)
theorem RDs.reverse : ∀ {ds : List D} {vs : List V}, RDs K H ρ M ds vs → RDs K H ρ M ds.reverse vs.reverse
  | [], _, h => by cases h; exact .nil
  | d :: ds, _, h => by
    cases h with
    | cons a b =>
      rw [List.reverse_cons, List.reverse_cons]
      exact RDs.append (RDs.reverse b) (.cons a .nil)
end

/-! ### the state -/
/-- what may still be written -/
def Mu (ρ : List Addr) (h : Hm) : Addr → Prop := fun a => ∃ (n : Nat) (o : MO), ρ[n]? = some a ∧ h[n]? = some o ∧ o ≠ MO.gone
def RO (K : PySem.W.Frag) (H : Hp) (ρ : List Addr) (M : Addr → Prop) : MO → Addr → Prop
  | .lst xs, a => ∃ vs, H a = some (.lst vs) ∧ RDs K H ρ M xs vs
  | .dic ks ds, a => ∃ vs, H a = some (.dK (kz ks vs)) ∧ RDs K H ρ M ds vs ∧ ks.length = vs.length
  | .gone, a => ∃ u, H a = some u
structure HR (K : PySem.W.Frag) (h : Hm) (ρ : List Addr) (H : Hp) : Prop where
  len : ρ.length = h.length
  nd : ρ.Nodup
  obj : ∀ (n : Nat) (o : MO) (a : Addr), h[n]? = some o → ρ[n]? = some a → RO K H ρ (Mu ρ h) o a
/-- the slots -/
structure SlR (K : PySem.W.Frag) (H : Hp) (ρ : List Addr) (M : Addr → Prop) (σ : Sg) (σV : L2.St) : Prop where
  len : σ.length = σV.length
  get : ∀ (i : Nat) (d : D), σ[i]? = some (some d) → ∃ v, σV[i]? = some (some v) ∧ RD K H ρ M d v
structure SR (K : PySem.W.Frag) (σ : Sg) (h : Hm) (ρ : List Addr) (σV : L2.St) (H : Hp) : Prop where
  hp : HR K h ρ H
  sl : SlR K H ρ (Mu ρ h) σ σV
abbrev Rel (K : PySem.W.Frag) (h : Hm) (ρ : List Addr) (H : Hp) : D → V → Prop := RD K H ρ (Mu ρ h)
abbrev Rels (K : PySem.W.Frag) (h : Hm) (ρ : List Addr) (H : Hp) : List D → List V → Prop := RDs K H ρ (Mu ρ h)
abbrev Kp (h : Hm) (ρ : List Addr) (H : Hp) (h' : Hm) (ρ' : List Addr) (H' : Hp) : Prop := Kps H ρ (Mu ρ h) H' ρ' (Mu ρ' h')
theorem Kps.refl {H : Hp} {ρ : List Addr} {M : Addr → Prop} : Kps H ρ M H ρ M := ⟨fun _ _ h n => ⟨h, n⟩, fun _ _ h => h⟩
theorem Kps.trans {H1 H2 H3 : Hp} {ρ1 ρ2 ρ3 : List Addr} {M1 M2 M3 : Addr → Prop} (a : Kps H1 ρ1 M1 H2 ρ2 M2) (b : Kps H2 ρ2 M2 H3 ρ3 M3) : Kps H1 ρ1 M1 H3 ρ3 M3 :=
  ⟨fun c o h n => let ⟨x, y⟩ := a.obj c o h n; b.obj c o x y, fun n c h => b.ref n c (a.ref n c h)⟩
theorem SlR.mono {K : PySem.W.Frag} {H H' : Hp} {ρ ρ' : List Addr} {M M' : Addr → Prop} {σ : Sg} {σV : L2.St} (k : Kps H ρ M H' ρ' M') (h : SlR K H ρ M σ σV) : SlR K H' ρ' M' σ σV :=
  ⟨h.len, fun i d e => let ⟨v, a, b⟩ := h.get i d e; ⟨v, a, b.mono k⟩⟩
theorem SlR.set {K : PySem.W.Frag} {H : Hp} {ρ : List Addr} {M : Addr → Prop} {σ : Sg} {σV : L2.St} {i : Nat} {d : D} {v : V} (h : SlR K H ρ M σ σV) (r : RD K H ρ M d v) : SlR K H ρ M (σ.set i (some d)) (σV.set i (some v)) := by
  refine ⟨by simp [h.len], fun j e hj => ?_⟩
  by_cases hij : i = j
  · subst hij
    rw [List.getElem?_set] at hj
    simp only [if_true] at hj
    split at hj
    · rename_i hl
      have e' : d = e := by simpa using hj
      subst e'
      exact ⟨v, by rw [List.getElem?_set_self (by rw [← h.len]; exact hl)], r⟩
    · cases hj
  · rw [List.getElem?_set_ne hij] at hj
    obtain ⟨w, a, b⟩ := h.get j e hj
    exact ⟨w, by rw [List.getElem?_set_ne hij]; exact a, b⟩
/-- slots forgotten -/
def wipeD (σ : Sg) : List Nat → Sg
  | [] => σ
  | v :: vs => (wipeD σ vs).set v none
theorem SlR.none {K : PySem.W.Frag} {H : Hp} {ρ : List Addr} {M : Addr → Prop} {σ : Sg} {σV : L2.St} {i : Nat} (h : SlR K H ρ M σ σV) : SlR K H ρ M (σ.set i none) (σV.set i none) := by
  refine ⟨by simp [h.len], fun j e hj => ?_⟩
  by_cases hij : i = j
  · subst hij
    rw [List.getElem?_set] at hj
    simp only [if_true] at hj
    split at hj <;> simp at hj
  · rw [List.getElem?_set_ne hij] at hj
    obtain ⟨w, a, b⟩ := h.get j e hj
    exact ⟨w, by rw [List.getElem?_set_ne hij]; exact a, b⟩
theorem SlR.wipe {K : PySem.W.Frag} {H : Hp} {ρ : List Addr} {M : Addr → Prop} {σ : Sg} {σV : L2.St} (h : SlR K H ρ M σ σV) : ∀ vs : List Nat, SlR K H ρ M (wipeD σ vs) (L2.wipe σV vs)
  | [] => h
  | v :: vs => by
    unfold wipeD L2.wipe
    exact (SlR.wipe h vs).none

/-! ### steps of the heap -/
section
variable {K : PySem.W.Frag} {H : Hp} {ρ : List Addr} {h : Hm}
theorem HR.mu {a : Addr} (r : HR K h ρ H) (m : Mu ρ h a) : ∃ u, H a = some u := by
  obtain ⟨n, o, e1, e2, e3⟩ := m
  have z := r.obj n o a e2 e1
  cases o with
  | gone => exact absurd rfl e3
  | lst xs =>
    obtain ⟨vs, e, _⟩ := z
    exact ⟨_, e⟩
  | dic ks ds =>
    obtain ⟨vs, e, _⟩ := z
    exact ⟨_, e⟩
theorem HR.fresh {p : Addr} (r : HR K h ρ H) (e : H p = none) : ¬ Mu ρ h p := fun m => by
  obtain ⟨vs, q⟩ := r.mu m
  rw [e] at q; cases q
/-- a new thing that is never written -/
theorem Kp.new {p : Addr} {o : HO} (r : HR K h ρ H) (e : H p = none) : Kp h ρ H h ρ (upd H p o) :=
  ⟨fun a u q n => ⟨by rw [upd_ne (ne_of_none q e)]; exact q, n⟩, fun _ _ q => q⟩
theorem ix_of_nodup {l : List Addr} (nd : l.Nodup) {i j : Nat} {a : Addr} (h1 : l[i]? = some a) (h2 : l[j]? = some a) : i = j := by
  obtain ⟨q1, e1⟩ := List.getElem?_eq_some_iff.mp h1
  obtain ⟨q2, e2⟩ := List.getElem?_eq_some_iff.mp h2
  exact (List.getElem_inj nd).mp (e1.trans e2.symm)
theorem mu_gone {n : Nat} {a : Addr} (nd : ρ.Nodup) (e1 : h[n]? = some .gone) (e2 : ρ[n]? = some a) : ¬ Mu ρ h a := by
  rintro ⟨m, o, q1, q2, q3⟩
  have := ix_of_nodup nd q1 e2
  subst this
  rw [e1] at q2
  cases q2
  exact q3 rfl
theorem HR.mono {H' : Hp} (r : HR K h ρ H) (k : Kp h ρ H h ρ H') (kl : ∀ a u, Mu ρ h a → H a = some u → H' a = some u) : HR K h ρ H' := by
  refine ⟨r.len, r.nd, fun n o a e1 e2 => ?_⟩
  have z := r.obj n o a e1 e2
  cases o with
  | gone =>
    obtain ⟨u, q⟩ := z
    exact ⟨u, (k.obj a u q (mu_gone r.nd e1 e2)).1⟩
  | lst xs =>
    obtain ⟨vs, e, q⟩ := z
    exact ⟨vs, kl a _ ⟨n, _, e2, e1, by intro z; cases z⟩ e, q.mono k⟩
  | dic ks ds =>
    obtain ⟨vs, e, q, l⟩ := z
    exact ⟨vs, kl a _ ⟨n, _, e2, e1, by intro z; cases z⟩ e, q.mono k, l⟩
theorem HR.new {p : Addr} {o : HO} (r : HR K h ρ H) (e : H p = none) : HR K h ρ (upd H p o) :=
  r.mono (Kp.new r e) fun a vs _ q => by rw [upd_ne (ne_of_none q e)]; exact q
theorem SR.new {σ : Sg} {σV : L2.St} {p : Addr} {o : HO} (s : SR K σ h ρ σV H) (e : H p = none) : SR K σ h ρ σV (upd H p o) := ⟨s.hp.new e, s.sl.mono (Kp.new s.hp e)⟩
/-- a new thing that may be written -/
theorem mu_push {p a : Addr} {o : MO} (hl : ρ.length = h.length) (m : Mu (ρ ++ [p]) (h ++ [o]) a) : Mu ρ h a ∨ a = p := by
  obtain ⟨n, u, e1, e2, e3⟩ := m
  by_cases hn : n < h.length
  · rw [List.getElem?_append_left (by omega)] at e1
    rw [List.getElem?_append_left hn] at e2
    exact .inl ⟨n, u, e1, e2, e3⟩
  · right
    rw [List.getElem?_append_right (by omega)] at e1
    have : n - ρ.length = 0 := by
      cases k : n - ρ.length with
      | zero => rfl
      | succ k' => rw [k] at e1; simp at e1
    rw [this] at e1
    exact (Option.some.inj e1).symm
theorem Kp.pushO {p : Addr} {o : MO} {u : HO} (r : HR K h ρ H) (e : H p = none) : Kp h ρ H (h ++ [o]) (ρ ++ [p]) (upd H p u) := by
  refine ⟨fun a u q n => ⟨by rw [upd_ne (ne_of_none q e)]; exact q, fun m => ?_⟩, fun n a q => ?_⟩
  · rcases mu_push r.len m with m | rfl
    · exact n m
    · rw [e] at q; cases q
  · have hn : n < ρ.length := (List.getElem?_eq_some_iff.mp q).1
    rw [List.getElem?_append_left hn]
    exact q
theorem Kp.push {p : Addr} {xs : List D} {vs : List V} (r : HR K h ρ H) (e : H p = none) : Kp h ρ H (h ++ [.lst xs]) (ρ ++ [p]) (upd H p (.lst vs)) := Kp.pushO r e
theorem HR.notin {p : Addr} (r : HR K h ρ H) (e : H p = none) : p ∉ ρ := fun m => by
  obtain ⟨n, hn⟩ := List.getElem?_of_mem m
  have hl : n < h.length := by rw [← r.len]; exact (List.getElem?_eq_some_iff.mp hn).1
  have z := r.obj n h[n] p (by simp [hl]) hn
  cases k : h[n] with
  | gone =>
    rw [k] at z
    obtain ⟨u, q⟩ := z
    rw [e] at q; cases q
  | lst xs =>
    rw [k] at z
    obtain ⟨vs, q, _⟩ := z
    rw [e] at q; cases q
  | dic ks ds =>
    rw [k] at z
    obtain ⟨vs, q, _⟩ := z
    rw [e] at q; cases q
theorem HR.pushO {p : Addr} {o0 : MO} {u0 : HO} (r : HR K h ρ H) (e : H p = none) (q0 : RO K (upd H p u0) (ρ ++ [p]) (Mu (ρ ++ [p]) (h ++ [o0])) o0 p) : HR K (h ++ [o0]) (ρ ++ [p]) (upd H p u0) := by
  have kp : Kp h ρ H (h ++ [o0]) (ρ ++ [p]) (upd H p u0) := Kp.pushO r e
  refine ⟨by simp [r.len], ?_, fun n o a e1 e2 => ?_⟩
  · rw [List.nodup_append]
    exact ⟨r.nd, by simp, fun a ha b hb z => by
      have hb' : b = p := by simpa using hb
      subst z
      subst hb'
      exact r.notin e ha⟩
  · by_cases hn : n < h.length
    · rw [List.getElem?_append_left hn] at e1
      rw [List.getElem?_append_left (by rw [r.len]; exact hn)] at e2
      have z := r.obj n o a e1 e2
      cases o with
      | gone =>
        obtain ⟨u, z⟩ := z
        exact ⟨u, by rw [upd_ne (ne_of_none z e)]; exact z⟩
      | lst ys =>
        obtain ⟨ws, z, z2⟩ := z
        exact ⟨ws, by rw [upd_ne (ne_of_none z e)]; exact z, z2.mono kp⟩
      | dic ks ds =>
        obtain ⟨ws, z, z2, z3⟩ := z
        exact ⟨ws, by rw [upd_ne (ne_of_none z e)]; exact z, z2.mono kp, z3⟩
    · rw [List.getElem?_append_right (by omega)] at e1
      rw [List.getElem?_append_right (by rw [r.len]; omega)] at e2
      have hz : n - h.length = 0 := by
        cases k : n - h.length with
        | zero => rfl
        | succ k' => rw [k] at e1; simp at e1
      rw [hz] at e1
      rw [r.len, hz] at e2
      have ea : p = a := by simpa using e2
      have eo : o0 = o := by simpa using e1
      subst ea
      subst eo
      exact q0
theorem HR.push {p : Addr} {xs : List D} {vs : List V} (r : HR K h ρ H) (e : H p = none) (q : Rels K h ρ H xs vs) : HR K (h ++ [.lst xs]) (ρ ++ [p]) (upd H p (.lst vs)) :=
  HR.pushO r e ⟨vs, upd_same, q.mono (Kp.pushO r e)⟩
theorem HR.pushD {p : Addr} (r : HR K h ρ H) (e : H p = none) : HR K (h ++ [.dic [] []]) (ρ ++ [p]) (upd H p (.dK [])) :=
  HR.pushO r e ⟨[], upd_same, .nil, rfl⟩
theorem mu_set {n : Nat} {o : MO} {a b : Addr} (e : ρ[n]? = some a) (h1 : ∃ o', h[n]? = some o' ∧ o' ≠ .gone) (m : Mu ρ (h.set n o) b) : Mu ρ h b := by
  obtain ⟨k, u, q1, q2, q3⟩ := m
  by_cases hk : n = k
  · subst hk
    obtain ⟨o', z1, z2⟩ := h1
    exact ⟨n, o', q1, z1, z2⟩
  · rw [List.getElem?_set_ne hk] at q2
    exact ⟨k, u, q1, q2, q3⟩
/-- a shared thing is written -/
theorem Kp.writeO {n : Nat} {a : Addr} {o0 o1 : MO} {u : HO} (e : ρ[n]? = some a) (h1 : h[n]? = some o0) (g : o0 ≠ .gone) : Kp h ρ H (h.set n o1) ρ (upd H a u) := by
  refine ⟨fun b u q m => ⟨?_, fun z => m (mu_set e ⟨_, h1, g⟩ z)⟩, fun _ _ q => q⟩
  rw [upd_ne]
  · exact q
  · rintro rfl
    exact m ⟨n, _, e, h1, g⟩
theorem HR.writeO {n : Nat} {a : Addr} {o0 o1 : MO} {u0 : HO} (r : HR K h ρ H) (e : ρ[n]? = some a) (h1 : h[n]? = some o0) (g : o0 ≠ .gone) (q0 : RO K (upd H a u0) ρ (Mu ρ (h.set n o1)) o1 a) : HR K (h.set n o1) ρ (upd H a u0) := by
  have kp : Kp h ρ H (h.set n o1) ρ (upd H a u0) := Kp.writeO e h1 g
  refine ⟨by simp [r.len], r.nd, fun k o b e1 e2 => ?_⟩
  by_cases hk : n = k
  · subst hk
    rw [e] at e2
    cases e2
    have hn : n < h.length := (List.getElem?_eq_some_iff.mp h1).1
    rw [List.getElem?_set_self hn] at e1
    cases e1
    exact q0
  · rw [List.getElem?_set_ne hk] at e1
    have ne : b ≠ a := fun z => by
      subst z
      exact hk (ix_of_nodup r.nd e e2)
    have z := r.obj k o b e1 e2
    cases o with
    | gone =>
      obtain ⟨u, z⟩ := z
      exact ⟨u, by rw [upd_ne ne]; exact z⟩
    | lst zs =>
      obtain ⟨us, z, z2⟩ := z
      exact ⟨us, by rw [upd_ne ne]; exact z, z2.mono kp⟩
    | dic ks ds =>
      obtain ⟨us, z, z2, z3⟩ := z
      exact ⟨us, by rw [upd_ne ne]; exact z, z2.mono kp, z3⟩
theorem Kp.write {n : Nat} {a : Addr} {xs ys : List D} {ws : List V} (e : ρ[n]? = some a) (h1 : h[n]? = some (.lst xs)) : Kp h ρ H (h.set n (.lst ys)) ρ (upd H a (.lst ws)) := Kp.writeO e h1 (by intro z; cases z)
theorem HR.write {n : Nat} {a : Addr} {xs ys : List D} {ws : List V} (r : HR K h ρ H) (e : ρ[n]? = some a) (h1 : h[n]? = some (.lst xs)) (q : Rels K h ρ H ys ws) : HR K (h.set n (.lst ys)) ρ (upd H a (.lst ws)) :=
  HR.writeO r e h1 (by intro z; cases z) ⟨ws, upd_same, q.mono (Kp.write e h1)⟩
theorem HR.writeD {n : Nat} {a : Addr} {ks ks' : List Str} {ds ds' : List D} {ws : List V} (r : HR K h ρ H) (e : ρ[n]? = some a) (h1 : h[n]? = some (.dic ks ds)) (q : Rels K h ρ H ds' ws) (l : ks'.length = ws.length) : HR K (h.set n (.dic ks' ds')) ρ (upd H a (.dK (kz ks' ws))) :=
  HR.writeO r e h1 (by intro z; cases z) ⟨ws, upd_same, q.mono (Kp.writeO e h1 (by intro z; cases z)), l⟩
/-- a shared thing is closed: never written again -/
theorem Kp.close {n : Nat} {a : Addr} {xs : List D} (e : ρ[n]? = some a) (h1 : h[n]? = some (.lst xs)) : Kp h ρ H (h.set n .gone) ρ H :=
  ⟨fun b u q m => ⟨q, fun z => m (mu_set e ⟨_, h1, by intro z; cases z⟩ z)⟩, fun _ _ q => q⟩
theorem HR.close {n : Nat} {a : Addr} {xs : List D} (r : HR K h ρ H) (e : ρ[n]? = some a) (h1 : h[n]? = some (.lst xs)) : HR K (h.set n .gone) ρ H ∧ Rel K (h.set n .gone) ρ H (.lst xs) (.ref a) := by
  have kp : Kp h ρ H (h.set n .gone) ρ H := Kp.close e h1
  have hn : n < h.length := (List.getElem?_eq_some_iff.mp h1).1
  obtain ⟨vs, q1, q2⟩ := r.obj n _ a h1 e
  refine ⟨⟨by simp [r.len], r.nd, fun k o b e1 e2 => ?_⟩, .lst (.inl ⟨.inl q1, ?_⟩) (q2.mono kp)⟩
  · by_cases hk : n = k
    · subst hk
      rw [e] at e2
      cases e2
      rw [List.getElem?_set_self hn] at e1
      cases e1
      exact ⟨_, q1⟩
    · rw [List.getElem?_set_ne hk] at e1
      have z := r.obj k o b e1 e2
      cases o with
      | gone => exact z
      | lst zs =>
        obtain ⟨us, z, z2⟩ := z
        exact ⟨us, z, z2.mono kp⟩
      | dic ks ds =>
        obtain ⟨us, z, z2, z3⟩ := z
        exact ⟨us, z, z2.mono kp, z3⟩
  · exact mu_gone r.nd (by rw [List.getElem?_set_self hn]) e
end

/-! Mini 2: the small language, and what its parts come to. -/

/-- what is raised: the class, the value of its own field (None where it has none) -/
structure Exn where
  cls : Str
  val : D
inductive Res (α : Type) where
  | ok (a : α) (h : Hm)
  | stuck
  | err (x : Exn) (h : Hm)
def Res.bind {α β : Type} : Res α → (α → Hm → Res β) → Res β
  | .ok a h, f => f a h
  | .stuck, _ => .stuck
  | .err _ _, _ => .stuck
@[simp] theorem Res.bind_ok {α β : Type} (a : α) (h : Hm) (f : α → Hm → Res β) : (Res.ok a h).bind f = f a h := rfl
@[simp] theorem Res.bind_stuck {α β : Type} (f : α → Hm → Res β) : (Res.stuck : Res α).bind f = .stuck := rfl
def Res.guard {α : Type} (b : Bool) (r : Res α) : Res α := match b with | true => r | false => .stuck
@[simp] theorem Res.guard_true {α : Type} (r : Res α) : Res.guard true r = r := rfl
@[simp] theorem Res.guard_false {α : Type} (r : Res α) : Res.guard false r = .stuck := rfl

inductive Op2 where
  | add | sub | mul | fdiv | mod | pow | addM
  deriving DecidableEq
inductive Cm where
  | lt | le | gt | ge | eq | ne | isin | notin
  deriving DecidableEq
inductive Ty where
  | int | bool | str | tuple | list
  deriving DecidableEq
inductive Bi where
  | len | abs | int | tuple | list | all | any | sum | max2 | min2 | str | sorted | repr
  deriving DecidableEq
inductive Mt where
  | append | popAt | index | indexL
  deriving DecidableEq

inductive Tg where
  | v (i : Nat)
  | tup (is : List Nat)

mutual
inductive Ex where
  | v (i : Nat)
  | non | bl (b : Bool) | int (i : Int) | str (x : Str)
  | glob (g : Nat)
  | op2 (o : Op2) (a b : Ex)
  | neg (a : Ex)
  | cmp (o : Cm) (a b : Ex)
  | chain (o1 o2 : Cm) (a b c : Ex)
  | isN (a : Ex) | notN (a : Ex)
  | isB (ng : Bool) (a : Ex) (b : Bool)
  | band (a b : Ex) | bor (a b : Ex) | bnot (a : Ex)
  | ifx (c a b : Ex)
  | tup (es : Exs) | lst (es : Exs) | lstM (es : Exs)
  | ix (a i : Ex)
  | slice (a : Ex) (lo hi : Eo)
  | rev (a : Ex)
  | call (f : Nat) (es : Exs)
  | callk (f : Nat) (es kes : Exs) (perm : List Nat)
  | isi (a : Ex) (t : Ty)
  | isiT (a : Ex) (ts : List Ty)
  | bi (b : Bi) (es : Exs)
  | meth (m : Mt) (r : Ex) (es : Exs)
  | lenset (a : Ex)
  | sortset (a : Ex)
  | rngM (a : Ex)
  | rngs (lst : Bool) (a b : Ex)
  | dct (kvs : List (Str × Int))
  | dget (d k f : Ex)
  | dix (d k : Ex)
  | dctM
  | fnv (j : Nat) (x : Str)
  | callv (i : Nat) (ops : List (Nat × Str)) (es : Exs)
  | comp (mu : Bool) (own : List (Str × Nat)) (tg : Tg) (it : It) (cond : Exs) (elt : Ex)
inductive Exs where
  | nil
  | cons (e : Ex) (es : Exs)
/-- what is walked -/
inductive It where
  | ex (e : Ex) | rng1 (a : Ex) | rng2 (a b : Ex) | rvs (e : Ex) | enm (e : Ex) | enmT (e : Ex) | sgn (e : Ex) | zp (a b : Ex)
/-- an end of a slice -/
inductive Eo where
  | none
  | some (e : Ex)
end

/-- an except clause: except x: slot i = a constant -/
inductive Hd where
  | c (x : Str) (i : Nat) (d : D)

mutual
inductive Stm where
  | set (i : Nat) (e : Ex)
  | asg (is : List Nat) (e : Ex)
  | par (i j : Nat) (a b : Ex)
  | par3 (i j l : Nat) (a b d : Ex)
  | setix (o i : Ex) (e : Ex)
  | dput (o i : Ex) (e : Ex)
  | ex (e : Ex)
  | ret (e : Ex)
  | ife (c : Ex) (a b : Blk)
  | for_ (tg : Tg) (it : It) (b : Blk)
  | while_ (c : Ex) (b : Blk)
  | brk | cont | pass
  | freeze (i : Nat)
  | never
  | setX (i : Nat) (e : Ex)
  | exX (e : Ex)
  | retX (e : Ex)
  | raise (x : Str)
  | aug (i : Nat) (e : Ex)
  | augI (i : Nat) (e : Ex)
  | try_ (rs : List Str) (b : Blk) (hs : List Hd)
inductive Blk where
  | nil
  | cons (s : Stm) (b : Blk)
end

/-! ### plain data -/
mutual
def toPy : D → Option PyData
  | .non => some .none
  | .bl b => some (.bool b)
  | .int i => some (.int i)
  | .str x => some (.str x)
  | .tup xs => (toPys xs).map .tuple
  | .lst xs => (toPys xs).map .list
  | .ref _ => none
  | .wtup _ => none
  | .dict _ _ => none
  | .fn _ _ => none
def toPys : List D → Option (List PyData)
  | [] => some []
  | x :: xs => match toPy x, toPys xs with
    | some p, some ps => some (p :: ps)
    | _, _ => none
end
def dicOf? (h : Hm) (n : Nat) : Option (List Str × List D) := match h[n]? with
  | some (.dic ks ds) => some (ks, ds)
  | _ => none
/-- a dict written: in its place, or at the end -/
def putKs (ks : List Str) (z : Str) : List Str := if z ∈ ks then ks else ks ++ [z]
def putVs {α : Type} (ks : List Str) (vs : List α) (z : Str) (v : α) : List α := if z ∈ ks then (ks.zip vs).map (fun p => if p.1 = z then v else p.2) else vs ++ [v]
def listOf? (h : Hm) (n : Nat) : Option (List D) := match h[n]? with
  | some (.lst xs) => some xs
  | _ => none
def toPyH (h : Hm) : D → Option PyData
  | .ref n => ((listOf? h n).bind toPys).map .list
  | d => toPy d
/-- the items of a list or tuple -/
def itemsOf (h : Hm) : D → Option (List D)
  | .tup xs => some xs
  | .lst xs => some xs
  | .ref n => listOf? h n
  | _ => none
abbrev LIM : Nat := 16777216

def mulOk (i j : Int) : Bool := decide (i.natAbs.log2 + j.natAbs.log2 < 1000000) || (decide (-(2 ^ 64) < i) && decide (i < 2 ^ 64)) || (decide (-(2 ^ 64) < j) && decide (j < 2 ^ 64))
def divOk (j : Int) : Bool := decide (j ≠ 0) && decide (j.natAbs.log2 < 9000)
def powOk (i j : Int) : Bool := decide (0 ≤ j) && decide (j ≤ 1000000) && decide (i.natAbs < 2 ^ 64)

/-- so many times -/
def repOk (n : Nat) (k : Int) : Bool := decide (0 < n) && decide (n ≤ 100) && decide (2 ≤ k) && decide (k ≤ 100000)
def repLOk (n : Nat) (k : Int) : Bool := decide (n ≤ 100) && decide (0 ≤ k) && decide (k ≤ 100000)
/-- the items of a list -/
def lstOf (h : Hm) : D → Option (List D)
  | .lst xs => some xs
  | .ref n => listOf? h n
  | _ => none
def tupOf : D → Option (List D)
  | .tup xs => some xs
  | _ => none
/-- list + list, tuple + tuple -/
def catD (mu : Bool) (d e : D) (h : Hm) : Res D := match lstOf h d, lstOf h e with
  | some xs, some ys => .guard (decide (xs.length + ys.length ≤ LIM)) (match mu with
    | true => .ok (.ref h.length) (h ++ [.lst (xs ++ ys)])
    | false => .ok (.lst (xs ++ ys)) h)
  | _, _ => match tupOf d, tupOf e with
    | some xs, some ys => .guard (!mu && decide (xs.length + ys.length ≤ LIM)) (.ok (.tup (xs ++ ys)) h)
    | _, _ => .stuck
def opD : Op2 → D → D → Hm → Res D
  | .add, .int i, .int j, h => .ok (.int (i + j)) h
  | .add, .str x, .str y, h => .guard (decide (x.length + y.length ≤ LIM)) (.ok (.str (x ++ y)) h)
  | .add, d, e, h => catD false d e h
  | .addM, d, e, h => catD true d e h
  | .sub, .int i, .int j, h => .ok (.int (i - j)) h
  | .mul, .int i, .int j, h => .guard (mulOk i j) (.ok (.int (i * j)) h)
  | .mul, .tup xs, .int k, h => .guard (repOk xs.length k) (.ok (.tup (List.replicate k.toNat xs).flatten) h)
  | .mul, .lst xs, .int k, h => .guard (repLOk xs.length k) (.ok (.lst (List.replicate k.toNat xs).flatten) h)
  | .mul, .str x, .int k, h => .guard (repOk x.length k) (.ok (.str (repS x k)) h)
  | .fdiv, .int i, .int j, h => .guard (divOk j) (.ok (.int (i.fdiv j)) h)
  | .mod, .int i, .int j, h => .guard (decide (0 < j)) (.ok (.int (i % j)) h)
  | .pow, .int i, .int j, h => .guard (powOk i j) (.ok (.int (i ^ j.toNat)) h)
  | _, _, _, _ => .stuck

def eqD (a b : D) (h : Hm) : Res Bool := match toPyH h a, toPyH h b with
  | some p, some q => .guard (SeqAt.shaped p && SeqAt.shaped q) (.ok (PyData.eqv p q) h)
  | _, _ => .stuck
/-- == of flat values -/
def flatD : D → Bool
  | .non => true
  | .bl _ => true
  | .int _ => true
  | .str _ => true
  | _ => false
def eqFD : D → D → Bool
  | .non, .non => true
  | .bl a, .bl b => a == b
  | .bl a, .int b => (if a then 1 else 0) == b
  | .int a, .bl b => a == (if b then 1 else 0)
  | .int a, .int b => a == b
  | .str a, .str b => a == b
  | _, _ => false
/-- what stands under a text -/
def lookD : List Str → List D → Str → Option D
  | k :: ks, d :: ds, x => if k = x then some d else lookD ks ds x
  | _, _, _ => none
/-- in, of data of any depth -/
def inDat (a b : D) (h : Hm) : Res Bool := match toPyH h a, toPyH h b with
  | some p, some (.list qs) => .guard (SeqAt.shaped p && SeqAt.shaped (.list qs) && decide (p.depth ≤ 62)) (.ok (qs.any fun z => PyData.eqv z p) h)
  | some p, some (.tuple qs) => .guard (SeqAt.shaped p && SeqAt.shaped (.tuple qs) && decide (p.depth ≤ 62)) (.ok (qs.any fun z => PyData.eqv z p) h)
  | _, _ => .stuck
def inD (a b : D) (h : Hm) : Res Bool := match b with
  | .dict ks ds => match a with
    | .str x => .ok (lookD ks ds x).isSome h
    | _ => .stuck
  | .str y => match a with
    | .str x => .ok (!(Builtin.Str.occurrences y x 0 y.length 1).isEmpty) h
    | _ => .stuck
  | _ => match flatD a with
    | true => match itemsOf h b with
      | some ys => .guard (flatD a && ys.all flatD) (.ok (ys.any fun y => eqFD y a) h)
      | none => .stuck
    | false => inDat a b h
def cmpD : Cm → D → D → Hm → Res Bool
  | .eq, a, b, h => eqD a b h
  | .ne, a, b, h => (eqD a b h).bind fun c h => .ok (!c) h
  | .lt, .int i, .int j, h => .ok (decide (i < j)) h
  | .le, .int i, .int j, h => .ok (decide (i ≤ j)) h
  | .gt, .int i, .int j, h => .ok (decide (j < i)) h
  | .ge, .int i, .int j, h => .ok (decide (j ≤ i)) h
  | .isin, a, b, h => inD a b h
  | .notin, a, b, h => (inD a b h).bind fun c h => .ok (!c) h
  | .lt, .str x, .str y, h => .ok (decide (x.cps.toList < y.cps.toList)) h
  | .le, .str x, .str y, h => .ok (!decide (y.cps.toList < x.cps.toList)) h
  | _, _, _, _ => .stuck
def isNonD : D → Bool
  | .non => true
  | _ => false
def trD : D → Hm → Res Bool
  | .bl b, h => .ok b h
  | _, _ => .stuck
def tyD : Ty → D → Bool
  | .int, .int _ => true
  | .int, .bl _ => true
  | .bool, .bl _ => true
  | .str, .str _ => true
  | .tuple, .tup _ => true
  | .tuple, .wtup _ => true
  | .list, .lst _ => true
  | .list, .ref _ => true
  | _, _ => false
def ixD : D → D → Hm → Res D
  | .str x, .int i, h => match atI x.cps.toList i with
    | some c => .guard (decide (x.length ≤ LIM)) (.ok (.str ⟨#[c]⟩) h)
    | none => .stuck
  | d, .int i, h => match itemsOf h d with
    | some xs => match atI xs i with
      | some y => .ok y h
      | none => .stuck
    | none => .stuck
  | _, _, _ => .stuck
/-- a value whose type may be asked -/
def openD (h : Hm) : D → Bool
  | .ref n => (listOf? h n).isSome
  | .dict _ _ => false
  | .fn _ _ => false
  | _ => true
def boolsOf : List D → Option (List Bool)
  | [] => some []
  | .bl b :: r => (boolsOf r).map (b :: ·)
  | _ :: _ => none
def intsOf : List D → Option (List Int)
  | [] => some []
  | .int b :: r => (intsOf r).map (b :: ·)
  | _ :: _ => none

/-- pairs of ints -/
def pairsOf : List D → Option (List (Int × Int))
  | [] => some []
  | .tup [.int i, .int j] :: r => (pairsOf r).map ((i, j) :: ·)
  | _ :: _ => none
def unpairs (ps : List (Int × Int)) : List D := ps.map fun p => .tup [.int p.1, .int p.2]
def insP (p : Int × Int) : List (Int × Int) → List (Int × Int)
  | [] => [p]
  | q :: r => if SrtO.lexB q p then q :: insP p r else p :: q :: r
def sortP : List (Int × Int) → List (Int × Int)
  | [] => []
  | p :: r => insP p (sortP r)
/-- sorted, of plain data that can be compared -/
def alikeB (ps : List PyData) : Bool := ps.all fun p => ps.all fun q => PySem.W.alike p q
def nonTup : PyData → Bool
  | .none => false
  | .tuple _ => false
  | _ => true
def someTup : PyData → Bool
  | .tuple (_ :: _) => true
  | _ => false
def sortD (es : List D) (ps : List PyData) : List D := ((es.zip ps).mergeSort (PySem.W.dataLe false fun b => b.2)).map fun b => b.1
def dataR (es : List D) (h : Hm) : Res D := match toPys es with
  | some ps => .guard (alikeB ps && (ps.all nonTup || ps.all someTup) && (ps.all fun p => decide (p.depth ≤ 60)) && decide (es.length ≤ 1000)) (.ok (.lst (sortD es ps)) h)
  | none => .stuck
def sortedR (es : List D) (h : Hm) : Res D := match pairsOf es with
  | some ps => .ok (.lst (unpairs (sortP ps))) h
  | none => dataR es h
/-- a list or tuple -/
def isSq : D → Bool
  | .tup _ => true
  | .lst _ => true
  | .ref _ => true
  | _ => false
def reprD (d : D) (h : Hm) : Res D := match isSq d, toPyH h d with
  | true, some p => .guard (p.showable && !p.hasDict && decide (p.depth ≤ 60) && decide (p.shown.length ≤ LIM)) (.ok (.str p.shown) h)
  | _, _ => .stuck
def biD : Bi → List D → Hm → Res D
  | .len, [.str x], h => .guard (decide (x.length ≤ LIM)) (.ok (.int x.length) h)
  | .len, [d], h => match itemsOf h d with
    | some xs => .ok (.int xs.length) h
    | none => .stuck
  | .abs, [.int i], h => .ok (.int (if i < 0 then -i else i)) h
  | .int, [.int i], h => .ok (.int i) h
  | .int, [.bl b], h => .ok (.int (if b then 1 else 0)) h
  | .int, [.str x], h => match PySem.intText? x with
    | some n => .guard (decide (x.length ≤ 640)) (.ok (.int n) h)
    | none => .stuck
  | .tuple, [.tup xs], h => .ok (.tup xs) h
  | .tuple, [d], h => match itemsOf h d with
    | some xs => .ok (.tup xs) h
    | none => .stuck
  | .list, [d], h => match itemsOf h d with
    | some xs => .ok (.lst xs) h
    | none => .stuck
  | .all, [d], h => match (lstOf h d).bind boolsOf with
    | some bs => .ok (.bl (bs.all id)) h
    | none => .stuck
  | .any, [d], h => match (lstOf h d).bind boolsOf with
    | some bs => .ok (.bl (bs.any id)) h
    | none => .stuck
  | .sum, [d], h => match (lstOf h d).bind intsOf with
    | some bs => .ok (.int bs.sum) h
    | none => .stuck
  | .sorted, [d], h => match lstOf h d with
    | some es => sortedR es h
    | none => .stuck
  | .max2, [.int i, .int j], h => .ok (.int (if j > i then j else i)) h
  | .min2, [.int i, .int j], h => .ok (.int (if j < i then j else i)) h
  | .repr, [d], h => reprD d h
  | .str, [.int i], h => .guard (decide (i.natAbs.log2 < 1920)) (.ok (.str (Str.ofString (toString i))) h)
  | _, _, _ => .stuck

def strsOf : List D → Option (List Str)
  | [] => some []
  | .str b :: r => (strsOf r).map (b :: ·)
  | _ :: _ => none
/-- the first place -/
def idxOf (x : Str) : List Str → Option Nat
  | [] => none
  | y :: ys => if y = x then some 0 else (idxOf x ys).map (· + 1)
/-- the first place of what is equal -/
def idxF (x : D) : List D → Option Nat
  | [] => none
  | y :: ys => if eqFD y x = true then some 0 else (idxF x ys).map (· + 1)
def sortsetD (d : D) (h : Hm) : Res D := match (lstOf h d).bind intsOf with
  | some ns => .guard (decide (ns.length ≤ 1000) && decide ((sortU ns).length < 64)) (.ok (.lst ((sortU ns).map D.int)) h)
  | none => .stuck
def mtD : Mt → D → List D → Hm → Res D
  | .append, .ref n, [x], h => match listOf? h n with
    | some xs => .guard (decide (xs.length < LIM)) (.ok .non (h.set n (.lst (xs ++ [x]))))
    | none => .stuck
  | .popAt, .ref n, [.int i], h => match listOf? h n with
    | some xs => match (if 0 ≤ i ∧ i < xs.length then xs[i.toNat]? else none) with
      | some y => .ok y (h.set n (.lst (xs.eraseIdx i.toNat)))
      | none => .stuck
    | none => .stuck
  | .index, .tup xs, [.str x], h => match (strsOf xs).bind (idxOf x) with
    | some j => .ok (.int j) h
    | none => .stuck
  | .index, .tup xs, [.int z], h => match intsOf xs with
    | some ns => .guard (decide (z ∈ ns)) (.ok (.int (ns.idxOf z : Nat)) h)
    | none => .stuck
  | .indexL, d, [x], h => match lstOf h d with
    | some ys => .guard (flatD x && ys.all flatD) (match idxF x ys with
      | some j => .ok (.int (j : Nat)) h
      | none => .stuck)
    | none => .stuck
  | _, _, _, _ => .stuck

/-- what may be asked -/
def rcvD : Mt → D → Hm → Bool
  | .append, .ref n, h => (listOf? h n).isSome
  | .popAt, .ref n, h => (listOf? h n).isSome
  | .index, .tup _, _ => true
  | .indexL, d, h => (lstOf h d).isSome
  | _, _, _ => false
/-- the values of the names of a target -/
def setAll : List Nat → List D → Sg → Option Sg
  | [], [], σ => some σ
  | i :: is, d :: ds, σ => setAll is ds (σ.set i (some d))
  | _, _, _ => none
def asgD : Tg → D → Sg → Option Sg
  | .v i, d, σ => some (σ.set i (some d))
  | .tup is, .tup xs, σ => setAll is xs σ
  | .tup is, .wtup xs, σ => setAll is xs σ
  | .tup is, .lst xs, σ => setAll is xs σ
  | .tup _, _, _ => none

/-- the list that stands at n grows by what f tells of the items -/
def compLoop (f : D → Hm → Res (Option D)) (n : Nat) : List D → Hm → Res Unit
  | [], h => .ok () h
  | x :: xs, h => (f x h).bind fun o h1 => match o with
    | some y => match listOf? h1 n with
      | some acc => .guard (decide (acc.length < LIM)) (compLoop f n xs (h1.set n (.lst (acc ++ [y]))))
      | none => .stuck
    | none => compLoop f n xs h1
mutual
/-- all shared things within are of the first n -/
def belowD (n : Nat) : D → Bool
  | .tup xs => belowDs n xs
  | .lst xs => belowDs n xs
  | .wtup xs => belowDs n xs
  | .dict _ xs => belowDs n xs
  | .ref k => decide (k < n)
  | _ => true
def belowDs (n : Nat) : List D → Bool
  | [] => true
  | x :: xs => belowD n x && belowDs n xs
end
open Classical in
/-- behind a comprehension its list is closed; it is forgotten where nothing else has changed -/
noncomputable def endC (h1 h2 : Hm) (ys : List D) : Hm := if (h2.take h1.length = h1 ∧ h2.length = h1.length + 1) ∧ belowDs h1.length ys = true then h1 else h2.set h1.length .gone

def rngD (lo : Int) : Nat → List D
  | 0 => []
  | n + 1 => .int lo :: rngD (lo + 1) n
def smallI (i : Int) : Bool := decide (i.natAbs < 2 ^ 62)
/-- the signs of a text -/
def signsD (x : Str) : List D := x.cps.toList.map fun c => .str ⟨#[c]⟩
def itD : D → Hm → Res (List D)
  | .tup xs, h => .ok xs h
  | .lst xs, h => .ok xs h
  | _, _ => .stuck
def itSD : D → Hm → Res (List D)
  | .str x, h => .ok (signsD x) h
  | _, _ => .stuck
/-- each key once -/
def distS (xs : List Key) : Nat := (distL xs).length
def keyOf : D → Option Key
  | .int i => some (.inl i)
  | .str x => some (.inr x)
  | _ => none
def keysOf : List D → Option (List Key)
  | [] => some []
  | d :: r => match keyOf d, keysOf r with
    | some k, some ks => some (k :: ks)
    | _, _ => none
def rgOkB (i j : Int) : Bool := smallI i && smallI j && decide ((j - i).toNat ≤ LIM)
def rngsD (lst : Bool) : D → D → Hm → Res D
  | .int i, .int j, h => .guard (rgOkB i j) (.ok (if lst then .lst (rngD i (j - i).toNat) else .tup (rngD i (j - i).toNat)) h)
  | _, _, _ => .stuck
def dgetD : D → D → D → Hm → Res D
  | .dict ks ds, .str x, z, h => .ok ((lookD ks ds x).getD z) h
  | .ref n, .str x, z, h => match dicOf? h n with
    | some kd => .ok ((lookD kd.1 kd.2 x).getD z) h
    | none => .stuck
  | _, _, _, _ => .stuck
def dixD : D → D → Hm → Res D
  | .dict ks ds, .str x, h => match lookD ks ds x with
    | some d => .ok d h
    | none => .stuck
  | _, _, _ => .stuck
def rngMD : D → Hm → Res D
  | .int j, h => .guard (rgOkB 0 j) (.ok (.ref h.length) (h ++ [.lst (rngD 0 j.toNat)]))
  | _, _ => .stuck
def lensetD : D → Hm → Res D
  | .tup xs, h => match keysOf xs with
    | some ks => .guard (decide (ks.length ≤ 1000)) (.ok (.int (distS ks)) h)
    | none => .stuck
  | _, _ => .stuck
structure Gam where
  fn : Nat → Option (List D → Hm → Res D)
  gl : Nat → Option D

def cutL {α : Type} (xs : List α) (lo hi : Option Int) : List α := (xs.drop (HT.sIx xs.length 0 lo)).take (HT.sIx xs.length xs.length hi - HT.sIx xs.length 0 lo)
def cutD (d : D) (lo hi : Option Int) (h : Hm) : Res D := match d with
  | .lst xs => .ok (.lst (cutL xs lo hi)) h
  | .tup xs => .ok (.tup (cutL xs lo hi)) h
  | .ref n => match listOf? h n with
    | some xs => .ok (.lst (cutL xs lo hi)) h
    | none => .stuck
  | .str x => .guard (decide (x.length ≤ LIM)) (.ok (.str (cutS x lo hi)) h)
  | _ => .stuck
def revD (d : D) (h : Hm) : Res D := match d with
  | .tup xs => .ok (.tup xs.reverse) h
  | d => match lstOf h d with
    | some xs => .ok (.lst xs.reverse) h
    | none => .stuck
def isDictD (h : Hm) : D → Bool
  | .dict _ _ => true
  | .ref n => (dicOf? h n).isSome
  | _ => false
def zipD : List D → List D → List D
  | x :: xs, y :: ys => .wtup [x, y] :: zipD xs ys
  | _, _ => []
def enumD : Nat → List D → List D
  | _, [] => []
  | k, x :: xs => .wtup [.int k, x] :: enumD (k + 1) xs

/-- the values by their places -/
def permV (perm : List Nat) {α : Type} (d : α) (us ws : List α) : List α := perm.map fun i => (us ++ ws).getD i d
noncomputable section
mutual
def evE (Γ : Gam) : Ex → Sg → Hm → Res D
  | .v i, σ, h => match σ[i]? with
    | some (some d) => .ok d h
    | _ => .stuck
  | .non, _, h => .ok .non h
  | .bl b, _, h => .ok (.bl b) h
  | .int i, _, h => .ok (.int i) h
  | .str x, _, h => .ok (.str x) h
  | .glob g, _, h => match Γ.gl g with
    | some d => .ok d h
    | none => .stuck
  | .op2 o a b, σ, h => (evE Γ a σ h).bind fun x h1 => (evE Γ b σ h1).bind fun y h2 => opD o x y h2
  | .neg a, σ, h => (evE Γ a σ h).bind fun x h1 => match x with
    | .int i => .ok (.int (-i)) h1
    | _ => .stuck
  | .cmp o a b, σ, h => (evE Γ a σ h).bind fun x h1 => (evE Γ b σ h1).bind fun y h2 => (cmpD o x y h2).bind fun c h3 => .ok (.bl c) h3
  | .chain o1 o2 a b c, σ, h => (evE Γ a σ h).bind fun x h1 => (evE Γ b σ h1).bind fun y h2 => (cmpD o1 x y h2).bind fun t h3 =>
    match t with
    | true => (evE Γ c σ h3).bind fun z h4 => (cmpD o2 y z h4).bind fun u h5 => .ok (.bl u) h5
    | false => .ok (.bl false) h3
  | .isN a, σ, h => (evE Γ a σ h).bind fun x h1 => .ok (.bl (isNonD x)) h1
  | .notN a, σ, h => (evE Γ a σ h).bind fun x h1 => .ok (.bl (!isNonD x)) h1
  | .isB ng a b, σ, h => (evE Γ a σ h).bind fun x h1 => match x with
    | .bl c => .ok (.bl (ng ^^ decide (c = b))) h1
    | _ => .stuck
  | .band a b, σ, h => (evE Γ a σ h).bind fun x h1 => match x with
    | .bl true => evE Γ b σ h1
    | .bl false => .ok (.bl false) h1
    | _ => .stuck
  | .bor a b, σ, h => (evE Γ a σ h).bind fun x h1 => match x with
    | .bl true => .ok (.bl true) h1
    | .bl false => evE Γ b σ h1
    | _ => .stuck
  | .bnot a, σ, h => (evE Γ a σ h).bind fun x h1 => match x with
    | .bl c => .ok (.bl (!c)) h1
    | _ => .stuck
  | .ifx c a b, σ, h => (evT Γ c σ h).bind fun t h1 => match t with
    | true => evE Γ a σ h1
    | false => evE Γ b σ h1
  | .tup es, σ, h => (evEs Γ es σ h).bind fun ds h1 => .guard (decide (ds.length ≤ LIM)) (.ok (.tup ds) h1)
  | .lst es, σ, h => (evEs Γ es σ h).bind fun ds h1 => .guard (decide (ds.length ≤ LIM)) (.ok (.lst ds) h1)
  | .lstM es, σ, h => (evEs Γ es σ h).bind fun ds h1 => .guard (decide (ds.length ≤ LIM)) (.ok (.ref h1.length) (h1 ++ [.lst ds]))
  | .ix a i, σ, h => (evE Γ a σ h).bind fun x h1 => (evE Γ i σ h1).bind fun y h2 => ixD x y h2
  | .slice a lo hi, σ, h => (evE Γ a σ h).bind fun x h1 => (evO Γ lo σ h1).bind fun l h2 => (evO Γ hi σ h2).bind fun u h3 => cutD x l u h3
  | .rev a, σ, h => (evE Γ a σ h).bind fun x h1 => revD x h1
  | .lenset a, σ, h => (evE Γ a σ h).bind lensetD
  | .sortset a, σ, h => (evE Γ a σ h).bind sortsetD
  | .rngM a, σ, h => (evE Γ a σ h).bind rngMD
  | .rngs l a b, σ, h => (evE Γ a σ h).bind fun x h1 => (evE Γ b σ h1).bind fun y h2 => rngsD l x y h2
  | .dct kvs, _, h => .ok (.dict (kvs.map (·.1)) (kvs.map fun p => .int p.2)) h
  | .dget d k f, σ, h => (evE Γ d σ h).bind fun x h1 => .guard (isDictD h1 x) ((evE Γ k σ h1).bind fun y h2 => (evE Γ f σ h2).bind fun z h3 => dgetD x y z h3)
  | .dix d k, σ, h => (evE Γ d σ h).bind fun x h1 => (evE Γ k σ h1).bind fun y h2 => dixD x y h2
  | .dctM, _, h => .ok (.ref h.length) (h ++ [.dic [] []])
  | .fnv j x, _, h => match Γ.fn j with
    | some _ => .ok (.fn j x) h
    | none => .stuck
  | .callv i ops es, σ, h => match σ[i]? with
    | some (some (.fn j x)) => .guard (decide ((j, x) ∈ ops)) ((evEs Γ es σ h).bind fun ds h1 => match Γ.fn j with
      | some den => den ds h1
      | none => .stuck)
    | _ => .stuck
  | .call f es, σ, h => (evEs Γ es σ h).bind fun ds h1 => match Γ.fn f with
    | some den => den ds h1
    | none => .stuck
  | .callk f es kes perm, σ, h => (evEs Γ es σ h).bind fun ds h1 => (evEs Γ kes σ h1).bind fun ks h2 => match Γ.fn f with
    | some den => den (permV perm D.non ds ks) h2
    | none => .stuck
  | .isi a t, σ, h => (evE Γ a σ h).bind fun x h1 => .guard (openD h1 x) (.ok (.bl (tyD t x)) h1)
  | .isiT a ts, σ, h => (evE Γ a σ h).bind fun x h1 => .guard (openD h1 x) (.ok (.bl (ts.any fun t => tyD t x)) h1)
  | .bi b es, σ, h => (evEs Γ es σ h).bind fun ds h1 => biD b ds h1
  | .meth m r es, σ, h => (evE Γ r σ h).bind fun x h1 => .guard (rcvD m x h1) ((evEs Γ es σ h1).bind fun ds h2 => mtD m x ds h2)
  | .comp mu own tg it cond elt, σ, h => (evI Γ it σ h).bind fun src h1 =>
    (compLoop (fun x h2 => match asgD tg x (wipeD σ (own.map (·.2))) with
      | some σ' => (evTs Γ cond σ' h2).bind fun t h3 => match t with
        | true => (evE Γ elt σ' h3).bind fun y h4 => .ok (some y) h4
        | false => .ok none h3
      | none => .stuck) h1.length src (h1 ++ [.lst []])).bind fun _ h2 => match listOf? h2 h1.length with
        | some ys => match mu with
          | true => .ok (.ref h1.length) h2
          | false => .ok (.lst ys) (endC h1 h2 ys)
        | none => .stuck
def evEs (Γ : Gam) : Exs → Sg → Hm → Res (List D)
  | .nil, _, h => .ok [] h
  | .cons e es, σ, h => (evE Γ e σ h).bind fun x h1 => (evEs Γ es σ h1).bind fun xs h2 => .ok (x :: xs) h2
/-- a test -/
def evT (Γ : Gam) : Ex → Sg → Hm → Res Bool
  | .band a b, σ, h => (evT Γ a σ h).bind fun t h1 => match t with
    | true => evT Γ b σ h1
    | false => .ok false h1
  | .bor a b, σ, h => (evT Γ a σ h).bind fun t h1 => match t with
    | true => .ok true h1
    | false => evT Γ b σ h1
  | .bnot a, σ, h => (evT Γ a σ h).bind fun t h1 => .ok (!t) h1
  | .cmp o a b, σ, h => (evE Γ a σ h).bind fun x h1 => (evE Γ b σ h1).bind fun y h2 => cmpD o x y h2
  | .chain o1 o2 a b c, σ, h => (evE Γ a σ h).bind fun x h1 => (evE Γ b σ h1).bind fun y h2 => (cmpD o1 x y h2).bind fun t h3 =>
    match t with
    | true => (evE Γ c σ h3).bind fun z h4 => cmpD o2 y z h4
    | false => .ok false h3
  | .isN a, σ, h => (evE Γ a σ h).bind fun x h1 => .ok (isNonD x) h1
  | .notN a, σ, h => (evE Γ a σ h).bind fun x h1 => .ok (!isNonD x) h1
  | .isB ng a b, σ, h => (evE Γ a σ h).bind fun x h1 => match x with
    | .bl c => .ok (ng ^^ decide (c = b)) h1
    | _ => .stuck
  | .v i, σ, h => match σ[i]? with
    | some (some d) => trD d h
    | _ => .stuck
  | .bl b, _, h => .ok b h
  | .call f es, σ, h => (evEs Γ es σ h).bind fun ds h1 => match Γ.fn f with
    | some den => (den ds h1).bind trD
    | none => .stuck
  | .callk f es kes perm, σ, h => (evEs Γ es σ h).bind fun ds h1 => (evEs Γ kes σ h1).bind fun ks h2 => match Γ.fn f with
    | some den => (den (permV perm D.non ds ks) h2).bind trD
    | none => .stuck
  | .isi a t, σ, h => (evE Γ a σ h).bind fun x h1 => .guard (openD h1 x) (.ok (tyD t x) h1)
  | .isiT a ts, σ, h => (evE Γ a σ h).bind fun x h1 => .guard (openD h1 x) (.ok (ts.any fun t => tyD t x) h1)
  | .bi b es, σ, h => (evEs Γ es σ h).bind fun ds h1 => (biD b ds h1).bind trD
  | _, _, _ => .stuck
def evTs (Γ : Gam) : Exs → Sg → Hm → Res Bool
  | .nil, _, h => .ok true h
  | .cons e .nil, σ, h => evT Γ e σ h
  | .cons _ (.cons _ _), _, _ => .stuck
/-- an end of a slice -/
def evO (Γ : Gam) : Eo → Sg → Hm → Res (Option Int)
  | .none, _, h => .ok none h
  | .some e, σ, h => (evE Γ e σ h).bind fun x h1 => match x with
    | .int i => .ok (some i) h1
    | _ => .stuck
/-- what is walked: the items -/
def evI (Γ : Gam) : It → Sg → Hm → Res (List D)
  | .rng1 a, σ, h => (evE Γ a σ h).bind fun x h1 => match x with
    | .int j => .guard (smallI j) (.ok (rngD 0 j.toNat) h1)
    | _ => .stuck
  | .rng2 a b, σ, h => (evE Γ a σ h).bind fun x h1 => (evE Γ b σ h1).bind fun y h2 => match x, y with
    | .int i, .int j => .ok (rngD i (j - i).toNat) h2
    | _, _ => .stuck
  | .ex e, σ, h => (evE Γ e σ h).bind itD
  | .rvs e, σ, h => (evE Γ e σ h).bind fun x h1 => (itD x h1).bind fun xs h2 => .ok xs.reverse h2
  | .enm e, σ, h => (evE Γ e σ h).bind fun x h1 => match x with
    | .lst xs => .ok (enumD 0 xs) h1
    | _ => .stuck
  | .enmT e, σ, h => (evE Γ e σ h).bind fun x h1 => match x with
    | .tup xs => .ok (enumD 0 xs) h1
    | _ => .stuck
  | .sgn e, σ, h => (evE Γ e σ h).bind itSD
  | .zp a b, σ, h => (evE Γ a σ h).bind fun x h1 => (evE Γ b σ h1).bind fun y h2 => match x, y with
    | .lst xs, .lst ys => .ok (zipD xs ys) h2
    | .tup xs, .tup ys => .ok (zipD xs ys) h2
    | _, _ => .stuck
end

/-! ### statements -/
structure Po where
  nx : Sg → Hm → Prop
  rt : D → Hm → Prop
  bk : Sg → Hm → Prop := fun _ _ => False
  ct : Sg → Hm → Prop := fun _ _ => False
  xe : Exn → Sg → Hm → Prop := fun _ _ _ => False

def Res.wp {α : Type} : Res α → (α → Hm → Prop) → Prop
  | .ok a h, Q => Q a h
  | .stuck, _ => False
  | .err _ _, _ => False
/-- .. where it may raise -/
def Res.wpx {α : Type} : Res α → (α → Hm → Prop) → (Exn → Hm → Prop) → Prop
  | .ok a h, Q, _ => Q a h
  | .stuck, _, _ => False
  | .err x h, _, E => E x h
/-- an expression that may raise: a call, or whether it is None -/
noncomputable def evX (Γ : Gam) : Ex → Sg → Hm → (D → Hm → Prop) → (Exn → Hm → Prop) → Prop
  | .call f es, σ, h, Q, E => (evEs Γ es σ h).wp fun ds h1 => match Γ.fn f with
    | some den => (den ds h1).wpx Q E
    | none => False
  | .callk f es kes perm, σ, h, Q, E => (evEs Γ es σ h).wp fun ds h1 => (evEs Γ kes σ h1).wp fun ks h2 => match Γ.fn f with
    | some den => (den (permV perm D.non ds ks) h2).wpx Q E
    | none => False
  | .isN a, σ, h, Q, E => evX Γ a σ h (fun x h1 => Q (.bl (isNonD x)) h1) E
  | _, _, _, _, _ => False
/-- all classes of the package but the base are its own children -/
def subX (x y : Str) : Bool := x == y || y == ("DrawError" : Str)
def hdsP (rs : List Str) (x : Exn) (σ : Sg) (h : Hm) (P : Po) : List Hd → Prop
  | [] => P.xe x σ h
  | .c y i d :: r => x.cls ∈ rs ∧ match subX x.cls y with
    | true => P.nx (σ.set i (some d)) h
    | false => hdsP rs x σ h P r
@[simp] theorem Res.wp_ok {α : Type} (a : α) (h : Hm) (Q : α → Hm → Prop) : (Res.ok a h).wp Q = Q a h := rfl

def wpFor (b : D → Sg → Hm → Po → Prop) : List D → Sg → Hm → Po → Prop
  | [], σ, h, P => P.nx σ h
  | x :: xs, σ, h, P => b x σ h { P with nx := fun σ' h' => wpFor b xs σ' h' P, ct := fun σ' h' => wpFor b xs σ' h' P, bk := P.nx }
def wpWhile (c : Sg → Hm → Res Bool) (b : Sg → Hm → Po → Prop) : Nat → Sg → Hm → Po → Prop
  | 0, _, _, _ => False
  | n + 1, σ, h, P => (c σ h).wp fun t h1 => match t with
    | true => b σ h1 { P with nx := fun σ' h' => wpWhile c b n σ' h' P, ct := fun σ' h' => wpWhile c b n σ' h' P, bk := P.nx }
    | false => P.nx σ h1

mutual
def wpS (Γ : Gam) : Stm → Sg → Hm → Po → Prop
  | .set i e, σ, h, P => (evE Γ e σ h).wp fun d h1 => P.nx (σ.set i (some d)) h1
  | .asg is e, σ, h, P => (evE Γ e σ h).wp fun d h1 => match asgD (.tup is) d σ with
    | some σ' => P.nx σ' h1
    | none => False
  | .par i j a b, σ, h, P => (evE Γ a σ h).wp fun x h1 => (evE Γ b σ h1).wp fun y h2 => P.nx ((σ.set i (some x)).set j (some y)) h2
  | .par3 i j l a b d, σ, h, P => (evE Γ a σ h).wp fun x h1 => (evE Γ b σ h1).wp fun y h2 => (evE Γ d σ h2).wp fun z h3 => P.nx (((σ.set i (some x)).set j (some y)).set l (some z)) h3
  | .setix o i e, σ, h, P => (evE Γ e σ h).wp fun d h1 => (evE Γ o σ h1).wp fun x h2 => (evE Γ i σ h2).wp fun y h3 => match x, y with
    | .ref n, .int k => match listOf? h3 n with
      | some xs => match ixN xs.length k with
        | some j => P.nx σ (h3.set n (.lst (xs.set j d)))
        | none => False
      | none => False
    | _, _ => False
  | .dput o i e, σ, h, P => (evE Γ e σ h).wp fun d h1 => (evE Γ o σ h1).wp fun x h2 => (evE Γ i σ h2).wp fun y h3 => match x, y with
    | .ref n, .str z => match dicOf? h3 n with
      | some kd => decide (kd.1.length < LIM) = true ∧ P.nx σ (h3.set n (.dic (putKs kd.1 z) (putVs kd.1 kd.2 z d)))
      | none => False
    | _, _ => False
  | .ex e, σ, h, P => (evE Γ e σ h).wp fun _ h1 => P.nx σ h1
  | .ret e, σ, h, P => (evE Γ e σ h).wp P.rt
  | .ife c a b, σ, h, P => (evT Γ c σ h).wp fun t h1 => match t with
    | true => wpB Γ a σ h1 P
    | false => wpB Γ b σ h1 P
  | .for_ tg it b, σ, h, P => (evI Γ it σ h).wp fun xs h1 => wpFor (fun x σ1 h2 P1 => match asgD tg x σ1 with
    | some σ2 => wpB Γ b σ2 h2 P1
    | none => False) xs σ h1 P
  | .while_ c b, σ, h, P => ∃ n, wpWhile (evT Γ c) (wpB Γ b) n σ h P
  | .brk, σ, h, P => P.bk σ h
  | .cont, σ, h, P => P.ct σ h
  | .pass, σ, h, P => P.nx σ h
  | .freeze i, σ, h, P => match σ[i]? with
    | some (some (.ref n)) => match listOf? h n with
      | some xs => P.nx (σ.set i (some (.lst xs))) (h.set n .gone)
      | none => False
    | _ => False
  | .never, _, _, _ => False
  | .setX i e, σ, h, P => evX Γ e σ h (fun d h1 => P.nx (σ.set i (some d)) h1) fun x h1 => P.xe x σ h1
  | .exX e, σ, h, P => evX Γ e σ h (fun _ h1 => P.nx σ h1) fun x h1 => P.xe x σ h1
  | .retX e, σ, h, P => evX Γ e σ h P.rt fun x h1 => P.xe x σ h1
  | .raise x, σ, h, P => P.xe ⟨x, .non⟩ σ h
  | .augI i e, σ, h, P => (evE Γ e σ h).wp fun d h1 => match σ[i]?, d with
    | some (some (.int a)), .int b => P.nx (σ.set i (some (.int (a + b)))) h1
    | _, _ => False
  | .aug i e, σ, h, P => (evE Γ e σ h).wp fun d h1 => match σ[i]?, d with
    | some (some (.ref n)), .ref m => match listOf? h1 n, listOf? h1 m with
      | some xs, some ys => decide (xs.length + ys.length ≤ LIM) = true ∧ P.nx σ (h1.set n (.lst (xs ++ ys)))
      | _, _ => False
    | _, _ => False
  | .try_ rs b hs, σ, h, P => wpB Γ b σ h { P with xe := fun x σ' h' => hdsP rs x σ' h' P hs }
def wpB (Γ : Gam) : Blk → Sg → Hm → Po → Prop
  | .nil, σ, h, P => P.nx σ h
  | .cons s b, σ, h, P => wpS Γ s σ h { P with nx := fun σ' h' => wpB Γ b σ' h' P }
end
end

/-! Mini 3: readings, and the operations by values. -/

section
variable {K : PySem.W.Frag} {σ : Sg} {h h' : Hm} {ρ ρ' : List Addr} {σV : L2.St} {H H' : Hp}
theorem SR.of (s : SR K σ h ρ σV H) (r : HR K h' ρ' H') (k : Kp h ρ H h' ρ' H') : SR K σ h' ρ' σV H' := ⟨r, s.sl.mono k⟩
theorem Res.wp_mono {α : Type} {r : Res α} {Q Q' : α → Hm → Prop} (w : r.wp Q) (m : ∀ a h, Q a h → Q' a h) : r.wp Q' := by
  cases r with
  | ok a h => exact m a h w
  | stuck => exact w
  | err _ _ => exact w
theorem Res.wp_bind {α β : Type} {r : Res α} {k : α → Hm → Res β} {Q : β → Hm → Prop} (w : (r.bind k).wp Q) : r.wp fun a h => (k a h).wp Q := by
  cases r with
  | ok a h => exact w
  | stuck => exact w
  | err _ _ => exact w
theorem Res.bind_wp_of {α β : Type} {r : Res α} {k : α → Hm → Res β} {Q : β → Hm → Prop} (w : r.wp fun a h => (k a h).wp Q) : (r.bind k).wp Q := by
  cases r with
  | ok a h => exact w
  | stuck => exact w
  | err _ _ => exact w
theorem Res.wp_guard {α : Type} {b : Bool} {r : Res α} {Q : α → Hm → Prop} (w : (Res.guard b r).wp Q) : b = true ∧ r.wp Q := by
  cases b with
  | true => exact ⟨rfl, w⟩
  | false => exact False.elim w

/-! ### readings -/
def tE (K : PySem.W.Frag) (f : Sg → Hm → Res D) : TE := fun σV H Q => ∃ σ h ρ, SR K σ h ρ σV H ∧ (f σ h).wp fun d h' => ∀ v H' ρ', SR K σ h' ρ' σV H' → Kp h ρ H h' ρ' H' → Rel K h' ρ' H' d v → Q v H'
def tT (K : PySem.W.Frag) (f : Sg → Hm → Res Bool) : TT := fun σV H Q => ∃ σ h ρ, SR K σ h ρ σV H ∧ (f σ h).wp fun b h' => ∀ H' ρ', SR K σ h' ρ' σV H' → Kp h ρ H h' ρ' H' → Q b H'
def tA (K : PySem.W.Frag) (f : Sg → Hm → Res (List D)) : TA := fun σV H Q => ∃ σ h ρ, SR K σ h ρ σV H ∧ (f σ h).wp fun ds h' => ∀ vs H' ρ', SR K σ h' ρ' σV H' → Kp h ρ H h' ρ' H' → Rels K h' ρ' H' ds vs → Q vs H'
def tP (K : PySem.W.Frag) (f : Sg → Hm → Res (Option Int)) : TO := fun σV H Q => ∃ σ h ρ, SR K σ h ρ σV H ∧ (f σ h).wp fun o h' => ∀ H' ρ', SR K σ h' ρ' σV H' → Kp h ρ H h' ρ' H' → Q o H'

/-- an expression within a chain -/
theorem tE_of {α : Type} {f : Sg → Hm → Res D} {k : D → Hm → Res α} {R : α → Hm → Prop} {Q : VK} (s : SR K σ h ρ σV H) (w : ((f σ h).bind k).wp R)
    (c : ∀ d h' v H' ρ', SR K σ h' ρ' σV H' → Kp h ρ H h' ρ' H' → Rel K h' ρ' H' d v → (k d h').wp R → Q v H') : tE K f σV H Q :=
  ⟨σ, h, ρ, s, Res.wp_mono (Res.wp_bind w) fun d h' q v H' ρ' s' k' r' => c d h' v H' ρ' s' k' r' q⟩
theorem tT_of {α : Type} {f : Sg → Hm → Res Bool} {k : Bool → Hm → Res α} {R : α → Hm → Prop} {Q : Bool → Hp → Prop} (s : SR K σ h ρ σV H) (w : ((f σ h).bind k).wp R)
    (c : ∀ b h' H' ρ', SR K σ h' ρ' σV H' → Kp h ρ H h' ρ' H' → (k b h').wp R → Q b H') : tT K f σV H Q :=
  ⟨σ, h, ρ, s, Res.wp_mono (Res.wp_bind w) fun b h' q H' ρ' s' k' => c b h' H' ρ' s' k' q⟩
theorem tA_of {α : Type} {f : Sg → Hm → Res (List D)} {k : List D → Hm → Res α} {R : α → Hm → Prop} {Q : List V → Hp → Prop} (s : SR K σ h ρ σV H) (w : ((f σ h).bind k).wp R)
    (c : ∀ ds h' vs H' ρ', SR K σ h' ρ' σV H' → Kp h ρ H h' ρ' H' → Rels K h' ρ' H' ds vs → (k ds h').wp R → Q vs H') : tA K f σV H Q :=
  ⟨σ, h, ρ, s, Res.wp_mono (Res.wp_bind w) fun ds h' q vs H' ρ' s' k' r' => c ds h' vs H' ρ' s' k' r' q⟩
theorem tP_of {α : Type} {f : Sg → Hm → Res (Option Int)} {k : Option Int → Hm → Res α} {R : α → Hm → Prop} {Q : Option Int → Hp → Prop} (s : SR K σ h ρ σV H) (w : ((f σ h).bind k).wp R)
    (c : ∀ o h' H' ρ', SR K σ h' ρ' σV H' → Kp h ρ H h' ρ' H' → (k o h').wp R → Q o H') : tP K f σV H Q :=
  ⟨σ, h, ρ, s, Res.wp_mono (Res.wp_bind w) fun o h' q H' ρ' s' k' => c o h' H' ρ' s' k' q⟩
end

theorem PE.w {X : Cx} {e : Expr} {t t' : TE} (p : PE X e t) (w : ∀ σ H Q, t' σ H Q → t σ H Q) : PE X e t' := ⟨fun pins s σ H Q I q => p.run pins s σ H Q I (w σ H Q q)⟩
theorem PT.w {X : Cx} {e : Expr} {t t' : TT} (p : PT X e t) (w : ∀ σ H Q, t' σ H Q → t σ H Q) : PT X e t' := ⟨fun pins s σ H Q I q => p.run pins s σ H Q I (w σ H Q q)⟩
theorem PW.w {X : Cx} {e : Expr} {t t' : TT} (p : PW X e t) (w : ∀ σ H Q, t' σ H Q → t σ H Q) : PW X e t' := ⟨fun wh pins s σ H Q I q => p.run wh pins s σ H Q I (w σ H Q q)⟩
theorem PA.w {X : Cx} {es : List Expr} {t t' : TA} (p : PA X es t) (w : ∀ σ H Q, t' σ H Q → t σ H Q) : PA X es t' := ⟨fun pos pins s σ H Q I q => p.run pos pins s σ H Q I (w σ H Q q)⟩
theorem PO.w {X : Cx} {e : Option Expr} {t t' : TO} (p : PO X e t) (w : ∀ σ H Q, t' σ H Q → t σ H Q) : PO X e t' := ⟨fun pins s σ H Q I q => p.run pins s σ H Q I (w σ H Q q)⟩
theorem PS.w {X : Cx} {e : Stmt} {t t' : TS} (p : PS X e t) (w : ∀ D σ H, t' D σ H → t D σ H) : PS X e t' := ⟨fun pins s σ H D I q => p.run pins s σ H D I (w D σ H q)⟩
theorem PSs.w {X : Cx} {e : List Stmt} {t t' : TS} (p : PSs X e t) (w : ∀ D σ H, t' D σ H → t D σ H) : PSs X e t' := ⟨fun pins s σ H D I q => p.run pins s σ H D I (w D σ H q)⟩

/-! ### operations by values -/
def DR1 (K : PySem.W.Frag) (g : D → Hm → Res D) : V → Hp → VK → Prop := fun x H Q => ∃ h ρ d, HR K h ρ H ∧ Rel K h ρ H d x ∧ (g d h).wp fun r h' => ∀ v H' ρ', HR K h' ρ' H' → Kp h ρ H h' ρ' H' → Rel K h' ρ' H' r v → Q v H'
def DR2 (K : PySem.W.Frag) (g : D → D → Hm → Res D) : R2 := fun x y H Q => ∃ h ρ d e, HR K h ρ H ∧ Rel K h ρ H d x ∧ Rel K h ρ H e y ∧ (g d e h).wp fun r h' => ∀ v H' ρ', HR K h' ρ' H' → Kp h ρ H h' ρ' H' → Rel K h' ρ' H' r v → Q v H'
def DRs (K : PySem.W.Frag) (g : List D → Hm → Res D) : List V → Hp → VK → Prop := fun xs H Q => ∃ h ρ ds, HR K h ρ H ∧ Rels K h ρ H ds xs ∧ (g ds h).wp fun r h' => ∀ v H' ρ', HR K h' ρ' H' → Kp h ρ H h' ρ' H' → Rel K h' ρ' H' r v → Q v H'
/-- a comparison's -/
def DRc (K : PySem.W.Frag) (g : D → D → Hm → Res Bool) : R2 := fun x y H Q => ∃ h ρ d e, HR K h ρ H ∧ Rel K h ρ H d x ∧ Rel K h ρ H e y ∧ (g d e h).wp fun b h' => ∀ H' ρ', HR K h' ρ' H' → Kp h ρ H h' ρ' H' → Q (.bl b) H'
section
variable {X : Cx} {f : Value → Value → Sem Value} {g : D → D → Hm → Res D}
theorem opW {r r' : R2} (p : OpR X f r) (w : ∀ x y H Q, r' x y H Q → r x y H Q) : OpR X f r' := fun pins s σ H x y v u Q I rx ry q => p pins s σ H x y v u Q I rx ry (w x y H Q q)
theorem opOr {r r' : R2} (p : OpR X f r) (p' : OpR X f r') : OpR X f (fun x y H Q => r x y H Q ∨ r' x y H Q) := by
  intro pins s σ H x y v u Q I rx ry q
  rcases q with q | q
  · exact p pins s σ H x y v u Q I rx ry q
  · exact p' pins s σ H x y v u Q I rx ry q
end
theorem sz : sizeLine = 16777216 := sizeLine_eq
theorem le_sz {n : Nat} (h : decide (n ≤ LIM) = true) : n ≤ sizeLine := by rw [sz]; exact of_decide_eq_true h
theorem lt_sz {n : Nat} (h : decide (n < LIM) = true) : n < sizeLine := by rw [sz]; exact of_decide_eq_true h

section
variable {K : PySem.W.Frag} {h : Hm} {ρ : List Addr} {H : Hp}
/-- a new tuple, a new list -/
theorem Rel.newT {p : Addr} {o : Obj} {xs : List D} {vs : List V} (r : HR K h ρ H) (e : H p = none) (d : o.dict = none) (q : Rels K h ρ H xs vs) : Rel K h ρ (upd H p (.frz o (.tup vs))) (.tup xs) (.ref p) :=
  .tup (.inl ⟨o, upd_same, d, r.fresh e⟩) (q.mono (Kp.new r e))
theorem Rel.newW {p : Addr} {xs : List D} {vs : List V} (r : HR K h ρ H) (e : H p = none) (q : Rels K h ρ H xs vs) : Rel K h ρ (upd H p (.tup vs)) (.wtup xs) (.ref p) :=
  .wtup ⟨.inl upd_same, r.fresh e⟩ (q.mono (Kp.new r e))
theorem Rel.newL {p : Addr} {xs : List D} {vs : List V} (r : HR K h ρ H) (e : H p = none) (q : Rels K h ρ H xs vs) : Rel K h ρ (upd H p (.lst vs)) (.lst xs) (.ref p) :=
  .lst (.inl ⟨.inl upd_same, r.fresh e⟩) (q.mono (Kp.new r e))
theorem HR.ref {n : Nat} {a : Addr} {xs : List D} (r : HR K h ρ H) (e : ρ[n]? = some a) (l : listOf? h n = some xs) : ∃ vs, H a = some (.lst vs) ∧ Rels K h ρ H xs vs := by
  unfold listOf? at l
  split at l
  · rename_i ys q
    cases l
    exact r.obj n _ a q e
  · cases l
/-- a list or tuple -/
theorem Rel.seq {d : D} {v : V} {xs : List D} (r : HR K h ρ H) (q : Rel K h ρ H d v) (i : itemsOf h d = some xs) : ∃ a vs, v = .ref a ∧ (SqL K H a vs ∨ SqT K H a vs) ∧ Rels K h ρ H xs vs := by
  cases q with
  | tup l q =>
    cases i
    exact ⟨_, _, rfl, .inr l.sq, q⟩
  | lst l q =>
    cases i
    exact ⟨_, _, rfl, .inl l.sq, q⟩
  | @ref n a e =>
    obtain ⟨vs, h1, h2⟩ := r.ref e i
    exact ⟨a, vs, rfl, .inl (SqL.of h1), h2⟩
  | _ => cases i
/-! plain data -/
mutual
theorem RD.py : ∀ {d : D} {v : V} {p : PyData}, Rel K h ρ H d v → toPy d = some p → Dp K H v p
  | .non, _, _, q, e => by
    cases q; cases e; exact .non
  | .bl _, _, _, q, e => by
    cases q; cases e; exact .bl _
  | .int _, _, _, q, e => by
    cases q; cases e; exact .int _
  | .str _, _, _, q, e => by
    cases q; cases e; exact .str _
  | .tup xs, _, _, q, e => by
    cases q with
    | tup l q =>
      unfold toPy at e
      cases e2 : toPys xs with
      | none => rw [e2] at e; cases e
      | some ps =>
        rw [e2] at e
        cases e
        exact .tup l.sq (RDs.py q e2)
  | .lst xs, _, _, q, e => by
    cases q with
    | lst l q =>
      unfold toPy at e
      cases e2 : toPys xs with
      | none => rw [e2] at e; cases e
      | some ps =>
        rw [e2] at e
        cases e
        exact .lst l.sq (RDs.py q e2)
  | .ref _, _, _, _, e => by cases e
  | .wtup _, _, _, _, e => by cases e
  | .dict _ _, _, _, _, e => by cases e
  | .fn _ _, _, _, _, e => by cases e
theorem RDs.py : ∀ {ds : List D} {vs : List V} {ps : List PyData}, Rels K h ρ H ds vs → toPys ds = some ps → DpAll K H vs ps
  | [], _, _, q, e => by
    cases q; cases e; exact .nil
  | d :: ds, _, _, q, e => by
    cases q with
    | cons a b =>
      unfold toPys at e
      cases e1 : toPy d with
      | none => rw [e1] at e; cases e
      | some p =>
        cases e2 : toPys ds with
        | none => rw [e1, e2] at e; cases e
        | some ps =>
          rw [e1, e2] at e
          cases e
          exact .cons (RD.py a e1) (RDs.py b e2)
end
theorem Rel.pyH {d : D} {v : V} {p : PyData} (r : HR K h ρ H) (q : Rel K h ρ H d v) (e : toPyH h d = some p) : Dp K H v p := by
  cases q with
  | @ref n a e1 =>
    have e : Option.map PyData.list ((listOf? h n).bind toPys) = some p := e
    cases e2 : listOf? h n with
    | none => rw [e2] at e; cases e
    | some xs =>
      rw [e2] at e
      obtain ⟨vs, h1, h2⟩ := r.ref e1 e2
      have e : Option.map PyData.list (toPys xs) = some p := e
      cases e3 : toPys xs with
      | none => rw [e3] at e; cases e
      | some ps =>
        rw [e3] at e
        cases e
        exact .lst (SqL.of h1) (RDs.py h2 e3)
  | non => exact RD.py (h := h) (ρ := ρ) (.non) e
  | bl b => exact RD.py (h := h) (ρ := ρ) (.bl b) e
  | int b => exact RD.py (h := h) (ρ := ρ) (.int b) e
  | str b => exact RD.py (h := h) (ρ := ρ) (.str b) e
  | tup a b => exact RD.py (h := h) (ρ := ρ) (.tup a b) e
  | lst a b => exact RD.py (h := h) (ρ := ρ) (.lst a b) e
  | wtup a b => cases e
  | dict a b => cases e
  | fn a => cases e
end

section
variable {X : Cx}
/-! ### two places -/
/-- list + list -/
theorem op_catL : OpR X (binaryOp .Add) (fun x y H Q => ∃ l b xs zs, x = .ref l ∧ y = .ref b ∧ SqL X.K H l xs ∧ SqL X.K H b zs ∧ xs.length + zs.length ≤ sizeLine ∧ ∀ p, H p = none → Q (.ref p) (upd H p (.lst (xs ++ zs)))) := by
  intro pins s σ H x y v u Q I rx ry h
  obtain ⟨l, b, xs, zs, rfl, rfl, hH, hB, hz, q⟩ := h
  cases rx
  cases ry
  obtain ⟨its, r, ⟨⟨cls, dd, data, sl⟩, n, ho, hc, _, hd⟩, z⟩ := I.list hH
  obtain ⟨its2, r2, ⟨⟨cls2, dd2, data2, sl2⟩, n2, ho2, hc2, _, hd2⟩, z2⟩ := I.list hB
  simp only at hc hd hc2 hd2
  subst hc hd hc2 hd2
  have e : its.toArray ++ its2.toArray = (its ++ its2).toArray := by simp
  have l1 := r.length
  have l2 := r2.length
  refine concat_meets ⟨_, ho, rfl⟩ ⟨_, ho2, rfl⟩ noFill_list_add seq_list_add PySem.F.slot_list_add PySem.F.entry_list_add (PySem.F.args_list_add_2 _ _) (list_addW l b its.toArray its2.toArray n n2 dd dd2 sl sl2 (by rw [List.size_toArray, List.size_toArray]; omega)) ⟨ho, ho2, ?_⟩
  rw [e]
  exact ⟨.ref _, _, I.lnew (t' := s.toks) (r.append r2) (by rw [List.length_append]; omega), rfl, q _ I.fresh⟩

theorem rI_int {K : PySem.W.Frag} {h : Hm} {ρ : List Addr} {H : Hp} {i : Int} {x : V} (r : Rel K h ρ H (.int i) x) : x = .int i := by cases r; rfl
theorem rI_str {K : PySem.W.Frag} {h : Hm} {ρ : List Addr} {H : Hp} {i : Str} {x : V} (r : Rel K h ρ H (.str i) x) : x = .str i := by cases r; rfl
theorem rI_bl {K : PySem.W.Frag} {h : Hm} {ρ : List Addr} {H : Hp} {i : Bool} {x : V} (r : Rel K h ρ H (.bl i) x) : x = .bl i := by cases r; rfl
/-- the operation of two ints -/
theorem op_ofI {f : Value → Value → Sem Value} {C : Int → Int → Prop} {gi : Int → Int → Int} {g : D → D → Hm → Res D} (o : OpR X f (rI C fun i j => .int (gi i j)))
    (w : ∀ d e h (R : D → Hm → Prop), (g d e h).wp R → ∃ i j, d = .int i ∧ e = .int j ∧ C i j ∧ R (.int (gi i j)) h) : OpR X f (DR2 X.K g) := opW o fun x y H Q hq => by
  obtain ⟨h, ρ, d, e, hr, r1, r2, q⟩ := hq
  obtain ⟨i, j, rfl, rfl, c, q⟩ := w _ _ _ _ q
  exact ⟨i, j, rI_int r1, rI_int r2, c, q _ _ _ hr Kps.refl (.int _)⟩
theorem opR_sub : OpR X (binaryOp .Sub) (DR2 X.K (opD .sub)) := op_ofI (C := fun _ _ => True) (gi := fun i j => i - j) (opW op_sub fun x y H Q ⟨i, j, a, b, _, q⟩ => ⟨i, j, a, b, q⟩) fun d e h R w => by
  cases d <;> cases e <;> first | exact False.elim w | skip
  exact ⟨_, _, rfl, rfl, trivial, w⟩
theorem mulOk_ok {i j : Int} (h : mulOk i j = true) : IntMulOk i j := by
  unfold mulOk at h
  rw [Bool.or_eq_true, Bool.or_eq_true] at h
  rcases h with (h | h) | h
  · exact CMulW.ok (show i.natAbs.log2 + j.natAbs.log2 < 1000000 from of_decide_eq_true h)
  · rw [Bool.and_eq_true] at h
    exact CMul.ok (.inl ⟨of_decide_eq_true h.1, of_decide_eq_true h.2⟩)
  · rw [Bool.and_eq_true] at h
    exact CMul.ok (.inr ⟨of_decide_eq_true h.1, of_decide_eq_true h.2⟩)
theorem repOk_ok {n : Nat} {k : Int} (h : repOk n k = true) : 0 < n ∧ n ≤ 100 ∧ 2 ≤ k ∧ k ≤ 100000 := by
  unfold repOk at h
  rw [Bool.and_eq_true, Bool.and_eq_true, Bool.and_eq_true] at h
  exact ⟨of_decide_eq_true h.1.1.1, of_decide_eq_true h.1.1.2, of_decide_eq_true h.1.2, of_decide_eq_true h.2⟩
theorem RDs.reps {K : PySem.W.Frag} {H : Hp} {ρ : List Addr} {M : Addr → Prop} {ds : List D} {vs : List V} (r : RDs K H ρ M ds vs) : ∀ n : Nat, RDs K H ρ M (List.replicate n ds).flatten (List.replicate n vs).flatten
  | 0 => .nil
  | n + 1 => by
    rw [List.replicate_succ, List.replicate_succ, List.flatten_cons, List.flatten_cons]
    exact r.append (RDs.reps r n)
theorem repLOk_ok {n : Nat} {k : Int} (h : repLOk n k = true) : n ≤ 100 ∧ 0 ≤ k ∧ k ≤ 100000 := by
  unfold repLOk at h
  rw [Bool.and_eq_true, Bool.and_eq_true] at h
  exact ⟨of_decide_eq_true h.1.1, of_decide_eq_true h.1.2, of_decide_eq_true h.2⟩
theorem opR_mulI : OpR X (binaryOp .Mult) (rI (fun i j => mulOk i j = true) fun i j => .int (i * j)) := opI fun _ _ _ _ _ _ _ hc q => mul_int q (mulOk_ok hc)
theorem opR_mul : OpR X (binaryOp .Mult) (DR2 X.K (opD .mul)) := by
  intro pins s σ H x y v u Q I rx ry hq
  obtain ⟨h, ρ, d, e, hr, r1, r2, q⟩ := hq
  cases d <;> cases e <;> first | exact False.elim q | skip
  · obtain ⟨c, q⟩ := Res.wp_guard q
    exact opR_mulI pins s σ H x y v u Q I rx ry ⟨_, _, rI_int r1, rI_int r2, c, q _ _ _ hr Kps.refl (.int _)⟩
  · obtain ⟨c, q⟩ := Res.wp_guard q
    obtain ⟨c1, c2, c3, c4⟩ := repOk_ok c
    exact op_mulS pins s σ H x y v u Q I rx ry ⟨_, _, rI_str r1, rI_int r2, c3, c4, c1, c2, q _ _ _ hr Kps.refl (.str _)⟩
  · obtain ⟨c, q⟩ := Res.wp_guard q
    obtain ⟨c1, c2, c3, c4⟩ := repOk_ok c
    cases r1 with
    | @tup a xs vs l rs =>
      have len := rs.length
      refine op_repF pins s σ H _ y v u Q I rx ry ⟨a, _, vs, rfl, rI_int r2, l.sq, ?_, c3, c4, by omega, fun p o hp ho => ?_⟩
      · intro z
        rw [z] at len
        rw [len] at c1
        exact absurd c1 (by decide)
      · exact q _ _ _ (hr.new hp) (Kp.new hr hp) (Rel.newT hr hp ho (rs.reps _))
  · obtain ⟨c, q⟩ := Res.wp_guard q
    obtain ⟨c1, c2, c3⟩ := repLOk_ok c
    cases r1 with
    | @lst a xs vs l rs =>
      have len := rs.length
      exact op_repL pins s σ H _ y v u Q I rx ry ⟨a, _, vs, rfl, rI_int r2, l.sq, c2, c3, by omega, fun p hp => q _ _ _ (hr.new hp) (Kp.new hr hp) (Rel.newL hr hp (rs.reps _))⟩
theorem divOk_ok {j : Int} (h : divOk j = true) : j ≠ 0 ∧ j.natAbs.log2 < 9000 := by
  unfold divOk at h
  rw [Bool.and_eq_true] at h
  exact ⟨of_decide_eq_true h.1, of_decide_eq_true h.2⟩
theorem opR_fdiv : OpR X (binaryOp .FloorDiv) (DR2 X.K (opD .fdiv)) := op_ofI (C := fun _ j => j ≠ 0 ∧ j.natAbs.log2 < 9000) (gi := fun i j => i.fdiv j) (opI fun _ _ _ _ _ _ _ hc q => floordiv_int hc.1 q (.inl (PyProof.noPylong_of_log2 hc.2))) fun d e h R w => by
  cases d <;> cases e <;> first | exact False.elim w | skip
  obtain ⟨c, w⟩ := Res.wp_guard w
  exact ⟨_, _, rfl, rfl, divOk_ok c, w⟩
theorem opR_mod : OpR X (binaryOp .Mod) (DR2 X.K (opD .mod)) := op_ofI op_mod fun d e h R w => by
  cases d <;> cases e <;> first | exact False.elim w | skip
  obtain ⟨c, w⟩ := Res.wp_guard w
  exact ⟨_, _, rfl, rfl, of_decide_eq_true c, w⟩
theorem opR_pow : OpR X (binaryOp .Pow) (DR2 X.K (opD .pow)) := op_ofI op_pow fun d e h R w => by
  cases d <;> cases e <;> first | exact False.elim w | skip
  obtain ⟨c, w⟩ := Res.wp_guard w
  unfold powOk at c
  rw [Bool.and_eq_true, Bool.and_eq_true] at c
  exact ⟨_, _, rfl, rfl, ⟨of_decide_eq_true c.1.1, of_decide_eq_true c.1.2, of_decide_eq_true c.2⟩, w⟩
/-- tuple + tuple: known to the object -/
theorem op_catF : OpR X (binaryOp .Add) (fun x y H Q => ∃ a b xs ys, x = .ref a ∧ y = .ref b ∧ SqT X.K H a xs ∧ SqT X.K H b ys ∧ xs.length + ys.length ≤ sizeLine ∧
    (xs = [] → Q (.ref b) H) ∧ (xs ≠ [] → ys = [] → Q (.ref a) H) ∧ (xs ≠ [] → ys ≠ [] → ∀ (p : Addr) (o : Obj), H p = none → o.dict = none → Q (.ref p) (upd H p (.frz o (.tup (xs ++ ys)))))) := by
  intro pins s σ H x y v u Q I rx ry h
  obtain ⟨a, b, xs, ys, rfl, rfl, ha, hb, hz, q0, q1, q2⟩ := h
  cases rx
  cases ry
  by_cases hx : xs = []
  · subst hx
    obtain ⟨its, r1, p1, _⟩ := I.tuple ha
    obtain ⟨its2, r2, p2, _⟩ := I.tuple hb
    cases r1
    exact cat_tup0 p1 p2 ⟨.ref b, H, I, rfl, q0 rfl⟩
  · obtain ⟨its, r1, p1, _⟩ := I.tuple ha
    obtain ⟨its2, r2, p2, _⟩ := I.tuple hb
    refine HT.cat_tup p1 p2 (fun z => hx (r1.nil_iff.mp z)) (fun z => ⟨.ref a, H, I, rfl, q1 hx (r2.nil_iff.mp z)⟩) (fun z => ?_) (by rw [← r1.length, ← r2.length]; exact hz)
    refine ⟨.ref s.heap.objs.size, _, I.laid (t' := s.toks) (o := .frz { cls := .type "tuple", data := .seq (its ++ its2).toArray } (.tup (xs ++ ys))) (fun b ob q => Heap.get?_push_of_some _ q) (Nat.le_refl _) ?_, rfl, q2 hx (fun w => z (r2.nil_iff.mpr w)) _ _ (I.hok.fresh (Nat.le_refl _)) rfl⟩
    exact ⟨Heap.get?_push_size _ rfl, by rw [List.length_append]; exact hz, _, r1.append r2, IsTup.new _ _⟩
theorem Rel.lstv0 {K : PySem.W.Frag} {h : Hm} {ρ : List Addr} {H : Hp} {d : D} {v : V} {xs : List D} (hr : HR K h ρ H) (r : Rel K h ρ H d v) (e : lstOf h d = some xs) : ∃ a vs, v = .ref a ∧ SqL K H a vs ∧ Rels K h ρ H xs vs := by
  cases r with
  | lst l q => cases e; exact ⟨_, _, rfl, l.sq, q⟩
  | @ref n a ea =>
    obtain ⟨vs, h1, h2⟩ := hr.ref ea e
    exact ⟨a, vs, rfl, .inl (.inl h1), h2⟩
  | _ => cases e
theorem Rel.tupv0 {K : PySem.W.Frag} {h : Hm} {ρ : List Addr} {H : Hp} {d : D} {v : V} {xs : List D} (r : Rel K h ρ H d v) (e : tupOf d = some xs) : ∃ a vs, v = .ref a ∧ LieT K H (Mu ρ h) a vs ∧ Rels K h ρ H xs vs := by
  cases r with
  | tup l q => cases e; exact ⟨_, _, rfl, l, q⟩
  | _ => cases e
theorem opR_cat (mu : Bool) : OpR X (binaryOp .Add) (DR2 X.K (catD mu)) := by
  intro pins s σ H x y v u Q I rx ry hq
  obtain ⟨h, ρ, d, e, hr, r1, r2, q⟩ := hq
  unfold catD at q
  split at q
  · rename_i xs ys e1 e2
    obtain ⟨c, q⟩ := Res.wp_guard q
    obtain ⟨a, vs, rfl, l1, q1⟩ := r1.lstv0 hr e1
    obtain ⟨b, ws, rfl, l2, q2⟩ := r2.lstv0 hr e2
    refine op_catL pins s σ H _ _ v u Q I rx ry ⟨_, _, _, _, rfl, rfl, l1, l2, ?_, fun p hp => ?_⟩
    · have := le_sz c
      rw [← q1.length, ← q2.length]
      exact this
    · cases mu with
      | true => exact q _ _ _ (hr.push hp (q1.append q2)) (Kp.push hr hp) (.ref (by rw [← hr.len]; simp))
      | false => exact q _ _ _ (hr.new hp) (Kp.new hr hp) (Rel.newL hr hp (q1.append q2))
  · split at q
    · rename_i xs ys e1 e2
      obtain ⟨c, q⟩ := Res.wp_guard q
      rw [Bool.and_eq_true] at c
      obtain ⟨a, vs, rfl, l1, q1⟩ := r1.tupv0 e1
      obtain ⟨b, ws, rfl, l2, q2⟩ := r2.tupv0 e2
      refine op_catF pins s σ H _ _ v u Q I rx ry ⟨_, _, _, _, rfl, rfl, l1.sq, l2.sq, ?_, fun z => ?_, fun _ z => ?_, fun _ _ p o hp ho => ?_⟩
      · have := le_sz c.2
        rw [← q1.length, ← q2.length]
        exact this
      · subst z
        cases q1
        exact q _ _ _ hr Kps.refl (.tup l2 q2)
      · subst z
        cases q2
        exact q _ _ _ hr Kps.refl (by rw [List.append_nil]; exact .tup l1 q1)
      · exact q _ _ _ (hr.new hp) (Kp.new hr hp) (Rel.newT hr hp ho (q1.append q2))
    · exact False.elim q
theorem opR_add : OpR X (binaryOp .Add) (DR2 X.K (opD .add)) := by
  intro pins s σ H x y v u Q I rx ry hq
  obtain ⟨h, ρ, d, e, hr, r1, r2, q⟩ := id hq
  have gen : (catD false d e h).wp (fun r h' => ∀ v H' ρ', HR X.K h' ρ' H' → Kp h ρ H h' ρ' H' → Rel X.K h' ρ' H' r v → Q v H') → wpAny (model X.prog X.w) X.A (binaryOp .Add v u) (EP X pins σ Q) X.xe s := fun q => opR_cat false pins s σ H x y v u Q I rx ry ⟨h, ρ, d, e, hr, r1, r2, q⟩
  cases d <;> cases e <;> first | exact gen q | skip
  · exact op_add pins s σ H x y v u Q I rx ry ⟨_, _, rI_int r1, rI_int r2, q _ _ _ hr Kps.refl (.int _)⟩
  · obtain ⟨c, q⟩ := Res.wp_guard q
    exact op_add_str pins s σ H x y v u Q I rx ry ⟨_, _, rI_str r1, rI_str r2, le_sz c, q _ _ _ hr Kps.refl (.str _)⟩
theorem opR_addM : OpR X (binaryOp .Add) (DR2 X.K (opD .addM)) := opW (opR_cat true) fun x y H Q ⟨h, ρ, d, e, hr, r1, r2, q⟩ => ⟨h, ρ, d, e, hr, r1, r2, by cases d <;> cases e <;> exact q⟩
theorem opR_of : ∀ (o : Op2) (po : Operator), (match o, po with
    | .add, .Add => true | .sub, .Sub => true | .mul, .Mult => true | .fdiv, .FloorDiv => true | .mod, .Mod => true | .pow, .Pow => true | .addM, .Add => true | _, _ => false) = true → OpR X (binaryOp po) (DR2 X.K (opD o)) := by
  intro o po e
  cases o <;> cases po <;> first | exact Bool.noConfusion e | exact opR_add | exact opR_sub | exact opR_mul | exact opR_fdiv | exact opR_mod | exact opR_pow | exact opR_addM

/-! ### comparisons -/
theorem cmp_ofI {f : Value → Value → Sem Value} {gi : Int → Int → Bool} {g : D → D → Hm → Res Bool} (o : OpR X f (rI0 fun i j => .bl (gi i j)))
    (w : ∀ d e h (R : Bool → Hm → Prop), (g d e h).wp R → ∃ i j, d = .int i ∧ e = .int j ∧ R (gi i j) h) : OpR X f (DRc X.K g) := opW o fun x y H Q hq => by
  obtain ⟨h, ρ, d, e, hr, r1, r2, q⟩ := hq
  obtain ⟨i, j, e1, e2, q'⟩ := w _ _ _ _ q
  subst e1 e2
  exact ⟨i, j, rI_int r1, rI_int r2, q' _ _ hr Kps.refl⟩
theorem cmR_lt : OpR X (compareOp .Lt) (DRc X.K (cmpD .lt)) := by
  intro pins s σ H x y v u Q I rx ry hq
  obtain ⟨h, ρ, d, e, hr, r1, r2, q⟩ := hq
  cases d <;> cases e <;> first | exact False.elim q | skip
  · exact op_lt pins s σ H x y v u Q I rx ry ⟨_, _, rI_int r1, rI_int r2, q _ _ hr Kps.refl⟩
  · exact op_lt_str pins s σ H x y v u Q I rx ry ⟨_, _, rI_str r1, rI_str r2, q _ _ hr Kps.refl⟩
theorem cmR_le : OpR X (compareOp .LtE) (DRc X.K (cmpD .le)) := by
  intro pins s σ H x y v u Q I rx ry hq
  obtain ⟨h, ρ, d, e, hr, r1, r2, q⟩ := hq
  cases d <;> cases e <;> first | exact False.elim q | skip
  · exact op_le pins s σ H x y v u Q I rx ry ⟨_, _, rI_int r1, rI_int r2, q _ _ hr Kps.refl⟩
  · exact op_le_str pins s σ H x y v u Q I rx ry ⟨_, _, rI_str r1, rI_str r2, q _ _ hr Kps.refl⟩
theorem cmR_gt : OpR X (compareOp .Gt) (DRc X.K (cmpD .gt)) := cmp_ofI op_gt fun d e h R w => by
  cases d <;> cases e <;> first | exact False.elim w | skip
  exact ⟨_, _, rfl, rfl, w⟩
theorem cmR_ge : OpR X (compareOp .GtE) (DRc X.K (cmpD .ge)) := cmp_ofI op_ge fun d e h R w => by
  cases d <;> cases e <;> first | exact False.elim w | skip
  exact ⟨_, _, rfl, rfl, w⟩
theorem eqD_wp {K : PySem.W.Frag} {h : Hm} {ρ : List Addr} {H : Hp} {d e : D} {x y : V} {R : Bool → Hm → Prop} (hr : HR K h ρ H) (r1 : Rel K h ρ H d x) (r2 : Rel K h ρ H e y) (w : (eqD d e h).wp R) :
    ∃ p q, Dp K H x p ∧ Dp K H y q ∧ SeqAt.shaped p = true ∧ SeqAt.shaped q = true ∧ R (PyData.eqv p q) h := by
  unfold eqD at w
  split at w
  · rename_i p q e1 e2
    obtain ⟨c, w⟩ := Res.wp_guard w
    rw [Bool.and_eq_true] at c
    exact ⟨p, q, r1.pyH hr e1, r2.pyH hr e2, c.1, c.2, w⟩
  · exact False.elim w
theorem cmR_eq (hu : X.A.units + 64 < cLine) : OpR X (compareOp .Eq) (DRc X.K (cmpD .eq)) := opW (op_eqD hu) fun x y H Q hq => by
  obtain ⟨h, ρ, d, e, hr, r1, r2, q⟩ := hq
  obtain ⟨p, p', a, b, c, c', q⟩ := eqD_wp hr r1 r2 q
  exact ⟨p, p', a, b, c, c', q _ _ hr Kps.refl⟩
theorem cmR_ne (hu : X.A.units + 64 < cLine) : OpR X (compareOp .NotEq) (DRc X.K (cmpD .ne)) := opW (op_neD hu) fun x y H Q hq => by
  obtain ⟨h, ρ, d, e, hr, r1, r2, q⟩ := hq
  obtain ⟨p, p', a, b, c, c', q⟩ := eqD_wp hr r1 r2 (Res.wp_bind q)
  exact ⟨p, p', a, b, c, c', q _ _ hr Kps.refl⟩
/-! in, not in -/
theorem flat_rel {K : PySem.W.Frag} {h : Hm} {ρ : List Addr} {H : Hp} {d : D} {v : V} (r : Rel K h ρ H d v) (f : flatD d = true) : flatV v = true ∧ ∀ e w, Rel K h ρ H e w → flatD e = true → eqFD d e = eqV v w := by
  cases r <;> first | exact Bool.noConfusion f | skip
  all_goals
    refine ⟨rfl, fun e w r2 f2 => ?_⟩
    cases r2 <;> first | exact Bool.noConfusion f2 | rfl
theorem flats_rel {K : PySem.W.Frag} {h : Hm} {ρ : List Addr} {H : Hp} {x : D} {v : V} (rx : Rel K h ρ H x v) (fx : flatD x = true) : ∀ {ys : List D} {vs : List V}, Rels K h ρ H ys vs → ys.all flatD = true → vs.all flatV = true ∧ (ys.any fun y => eqFD y x) = inV v vs
  | [], _, r, _ => by cases r; exact ⟨rfl, rfl⟩
  | y :: ys, _, r, f => by
    cases r with
    | cons a b =>
      rw [List.all_cons, Bool.and_eq_true] at f
      obtain ⟨i1, i2⟩ := flats_rel rx fx b f.2
      obtain ⟨j1, j2⟩ := flat_rel a f.1
      refine ⟨by rw [List.all_cons, j1, i1] <;> rfl, ?_⟩
      rw [List.any_cons, i2, j2 _ _ rx fx] <;> rfl
theorem look_rel {K : PySem.W.Frag} {h : Hm} {ρ : List Addr} {H : Hp} {x : Str} : ∀ {ks : List Str} {ds : List D} {vs : List V}, Rels K h ρ H ds vs → ks.length = vs.length → match lookD ks ds x with
    | some d => ∃ v, valV (kz ks vs) (.inr x) = some v ∧ Rel K h ρ H d v
    | none => valV (kz ks vs) (.inr x) = none
  | [], ds, _, r, e => by
    cases r with
    | nil => exact valV_nil
    | cons a b => cases e
  | k :: ks, ds, _, r, e => by
    cases r with
    | nil => cases e
    | @cons d v ds vs a b =>
      unfold lookD
      by_cases c : k = x
      · rw [if_pos c]
        refine ⟨v, ?_, a⟩
        show valV (((Sum.inr k : Key), v) :: kz ks vs) _ = _
        rw [valV_pos (by rw [c])]
      · rw [if_neg c]
        have z := look_rel (x := x) b (Nat.succ.inj e)
        have e2 : valV (kz (k :: ks) (v :: vs)) (.inr x) = valV (kz ks vs) (.inr x) := by
          show valV (((Sum.inr k : Key), v) :: kz ks vs) _ = _
          rw [valV_neg (by intro q; exact c (Sum.inr.inj q))]
        cases q : lookD ks ds x with
        | none =>
          rw [q] at z
          dsimp only at z ⊢
          rw [e2, z]
        | some w =>
          rw [q] at z
          dsimp only at z ⊢
          rw [e2]
          exact z
theorem look_get {K : PySem.W.Frag} {h : Hm} {ρ : List Addr} {H : Hp} {M : Addr → Prop} {x : Str} {a : Addr} {ks : List Str} {ds : List D} {vs : List V} (l : LieK H M a ks vs) (r : Rels K h ρ H ds vs) : ∃ o, DGet H a (.str x) o ∧ o.isSome = (lookD ks ds x).isSome ∧
    ∀ d, lookD ks ds x = some d → ∃ v, o = some v ∧ Rel K h ρ H d v := by
  refine ⟨valV (kz ks vs) (.inr x), .inl ⟨_, .inr x, l.1, rfl, rfl⟩, ?_⟩
  have z := look_rel (x := x) r l.2.2
  cases q : lookD ks ds x with
  | none =>
    rw [q] at z
    dsimp only at z
    rw [z]
    exact ⟨rfl, fun d e => by cases e⟩
  | some d =>
    rw [q] at z
    obtain ⟨v, e, rv⟩ := z
    rw [e]
    exact ⟨rfl, fun d' e => by cases e; exact ⟨v, rfl, rv⟩⟩
/-- what `in` of data reaches -/
def InDat (K : PySem.W.Frag) (H : Hp) (x y : V) (R : Bool → Prop) : Prop := ∃ p qs, Dp K H x p ∧ (Dp K H y (.list qs) ∨ Dp K H y (.tuple qs)) ∧ SeqAt.shaped p = true ∧ PyData.canLayAll0 qs = true ∧ p.depth ≤ 62 ∧ R (qs.any fun z => PyData.eqv z p)
theorem inDat_wp {K : PySem.W.Frag} {h : Hm} {ρ : List Addr} {H : Hp} {d e : D} {x y : V} {R : Bool → Hm → Prop} (hr : HR K h ρ H) (r1 : Rel K h ρ H d x) (r2 : Rel K h ρ H e y) (w : (inDat d e h).wp R) : InDat K H x y fun b => R b h := by
  unfold inDat at w
  split at w
  · rename_i p qs e1 e2
    obtain ⟨c, w⟩ := Res.wp_guard w
    rw [Bool.and_eq_true, Bool.and_eq_true, decide_eq_true_eq] at c
    exact ⟨p, qs, r1.pyH hr e1, .inl (r2.pyH hr e2), c.1.1, SeqAt.canLay_of_shaped c.1.2, c.2, w⟩
  · rename_i p qs e1 e2
    obtain ⟨c, w⟩ := Res.wp_guard w
    rw [Bool.and_eq_true, Bool.and_eq_true, decide_eq_true_eq] at c
    exact ⟨p, qs, r1.pyH hr e1, .inr (r2.pyH hr e2), c.1.1, SeqAt.canLay_of_shaped c.1.2, c.2, w⟩
  · exact False.elim w
theorem op_inDat (hu : X.A.units + 64 < cLine) : OpR X (compareOp .In) (fun x y H Q => InDat X.K H x y fun b => Q (.bl b) H) := by
  intro pins s σ H x y v u Q I rx ry h
  obtain ⟨d, ds, hd, he, sd, se, dp, q⟩ := h
  obtain ⟨as, r1⟩ := Dp.reads I d x v hd rx
  have hm : X.A.units + 1 + min (PyData.depthAll ds) d.depth < cLine := by
    have := Nat.min_le_right (PyData.depthAll ds) d.depth
    omega
  rcases he with he | he
  · obtain ⟨bs, r2⟩ := Dp.reads I (.list ds) y u he ry
    exact SeqAt.in_list_reads r2 r1 se (SeqAt.canLay_of_shaped sd) hm ⟨.bl _, H, I, rfl, q⟩
  · obtain ⟨bs, r2⟩ := Dp.reads I (.tuple ds) y u he ry
    exact SeqAt.in_tuple_reads r2 r1 se (SeqAt.canLay_of_shaped sd) hm ⟨.bl _, H, I, rfl, q⟩
theorem op_notInDat (hu : X.A.units + 64 < cLine) : OpR X (compareOp .NotIn) (fun x y H Q => InDat X.K H x y fun b => Q (.bl (!b)) H) := by
  intro pins s σ H x y v u Q I rx ry h
  obtain ⟨d, ds, hd, he, sd, se, dp, q⟩ := h
  obtain ⟨as, r1⟩ := Dp.reads I d x v hd rx
  have hm : X.A.units + 1 + min (PyData.depthAll ds) d.depth < cLine := by
    have := Nat.min_le_right (PyData.depthAll ds) d.depth
    omega
  rcases he with he | he
  · obtain ⟨bs, r2⟩ := Dp.reads I (.list ds) y u he ry
    exact SeqAt.notIn_list_reads r2 r1 se (SeqAt.canLay_of_shaped sd) hm ⟨.bl _, H, I, rfl, q⟩
  · obtain ⟨bs, r2⟩ := Dp.reads I (.tuple ds) y u he ry
    exact SeqAt.notIn_tuple_reads r2 r1 se (SeqAt.canLay_of_shaped sd) hm ⟨.bl _, H, I, rfl, q⟩
/-- what `in` of texts reaches -/
def InTxt (x y : V) (R : Bool → Prop) : Prop := ∃ i j, x = .str i ∧ y = .str j ∧ R (!(Builtin.Str.occurrences j i 0 j.length 1).isEmpty)
theorem inD_wp {K : PySem.W.Frag} {h : Hm} {ρ : List Addr} {H : Hp} {d e : D} {x y : V} {R : Bool → Hm → Prop} (hr : HR K h ρ H) (r1 : Rel K h ρ H d x) (r2 : Rel K h ρ H e y) (w : (inD d e h).wp R) :
    (((∃ a o, y = .ref a ∧ DGet H a x o ∧ R o.isSome h) ∨ ∃ p xs, y = .ref p ∧ (SqL K H p xs ∨ SqT K H p xs) ∧ flatV x = true ∧ xs.all flatV = true ∧ R (inV x xs) h) ∨ InDat K H x y fun b => R b h) ∨ InTxt x y fun b => R b h := by
  have seq : ∀ ys, itemsOf h e = some ys → (Res.guard (flatD d && ys.all flatD) (.ok (ys.any fun y => eqFD y d) h)).wp R → ∃ p xs, y = .ref p ∧ (SqL K H p xs ∨ SqT K H p xs) ∧ flatV x = true ∧ xs.all flatV = true ∧ R (inV x xs) h := by
    intro ys ei w
    obtain ⟨c, w⟩ := Res.wp_guard w
    rw [Bool.and_eq_true] at c
    obtain ⟨a, vs, rfl, hs, rr⟩ := r2.seq hr ei
    obtain ⟨f1, f2⟩ := flats_rel r1 c.1 rr c.2
    exact ⟨a, vs, rfl, hs, (flat_rel r1 c.1).1, f1, by rw [← f2]; exact w⟩
  have both : (match flatD d with
      | true => match itemsOf h e with
        | some ys => Res.guard (flatD d && ys.all flatD) (.ok (ys.any fun y => eqFD y d) h)
        | none => .stuck
      | false => inDat d e h).wp R → ((∃ a o, y = .ref a ∧ DGet H a x o ∧ R o.isSome h) ∨ ∃ p xs, y = .ref p ∧ (SqL K H p xs ∨ SqT K H p xs) ∧ flatV x = true ∧ xs.all flatV = true ∧ R (inV x xs) h) ∨ InDat K H x y fun b => R b h := by
    intro w
    cases k : flatD d with
    | false =>
      rw [k] at w
      exact .inr (inDat_wp hr r1 r2 w)
    | true =>
      rw [k] at w
      cases k2 : itemsOf h e with
      | none =>
        rw [k2] at w
        exact False.elim w
      | some ys =>
        rw [k2] at w
        exact .inl (.inr (seq ys k2 (by rw [k]; exact w)))
  cases e with
  | dict ks ds =>
    cases d with
    | str z =>
      have ex := rI_str r1
      subst ex
      cases r2 with
      | @dict a _ _ vs l rr =>
        obtain ⟨o, g, e1, _⟩ := look_get (x := z) l rr
        exact .inl (.inl (.inl ⟨a, o, rfl, g, by rw [e1]; exact w⟩))
    | _ => exact False.elim w
  | str z2 =>
    cases d with
    | str z =>
      have ex := rI_str r1
      have ey := rI_str r2
      subst ex
      subst ey
      exact .inr ⟨z, z2, rfl, rfl, w⟩
    | _ => exact False.elim w
  | _ => exact .inl (both w)
theorem cmR_in (hu : X.A.units + 64 < cLine) : OpR X (compareOp .In) (DRc X.K (cmpD .isin)) := by
  intro pins s σ H x y v u Q I rx ry hq
  obtain ⟨h, ρ, d, e, hr, r1, r2, q⟩ := hq
  rcases inD_wp hr r1 r2 (by cases d <;> exact q) with ((⟨a, o, ey, g, q⟩ | ⟨p, xs, ey, hs, f1, f2, q⟩) | ⟨p, qs, a1, a2, a3, a4, a5, q⟩) | ⟨i, j, ex, ey, q⟩
  · exact op_in_dict (by omega) pins s σ H x y v u Q I rx ry ⟨a, o, ey, g, q _ _ hr Kps.refl⟩
  · exact op_in_seq pins s σ H x y v u Q I rx ry ⟨p, xs, ey, hs, f1, f2, q _ _ hr Kps.refl⟩
  · exact op_inDat hu pins s σ H x y v u Q I rx ry ⟨p, qs, a1, a2, a3, a4, a5, q _ _ hr Kps.refl⟩
  · exact op_in_str pins s σ H x y v u Q I rx ry ⟨i, j, ex, ey, q _ _ hr Kps.refl⟩
theorem cmR_notin (hu : X.A.units + 64 < cLine) : OpR X (compareOp .NotIn) (DRc X.K (cmpD .notin)) := by
  intro pins s σ H x y v u Q I rx ry hq
  obtain ⟨h, ρ, d, e, hr, r1, r2, q⟩ := hq
  have e0 : cmpD .notin d e h = (inD d e h).bind fun c h => .ok (!c) h := by cases d <;> rfl
  rw [e0] at q
  rcases inD_wp hr r1 r2 (Res.wp_bind q) with ((⟨a, o, ey, g, q⟩ | ⟨p, xs, ey, hs, f1, f2, q⟩) | ⟨p, qs, a1, a2, a3, a4, a5, q⟩) | ⟨i, j, ex, ey, q⟩
  · exact op_notin_dict (by omega) pins s σ H x y v u Q I rx ry ⟨a, o, ey, g, q _ _ hr Kps.refl⟩
  · exact op_notIn_seq pins s σ H x y v u Q I rx ry ⟨p, xs, ey, hs, f1, f2, q _ _ hr Kps.refl⟩
  · exact op_notInDat hu pins s σ H x y v u Q I rx ry ⟨p, qs, a1, a2, a3, a4, a5, q _ _ hr Kps.refl⟩
  · exact op_notin_str pins s σ H x y v u Q I rx ry ⟨i, j, ex, ey, q _ _ hr Kps.refl⟩
def cmB : Cm → CmpOp → Bool
  | .lt, .Lt => true | .le, .LtE => true | .gt, .Gt => true | .ge, .GtE => true | .eq, .Eq => true | .ne, .NotEq => true | .isin, .In => true | .notin, .NotIn => true | _, _ => false
theorem cmR_of (hu : X.A.units + 64 < cLine) : ∀ (o : Cm) (po : CmpOp), cmB o po = true → OpR X (compareOp po) (DRc X.K (cmpD o)) := by
  intro o po e
  cases o <;> cases po <;> first | exact Bool.noConfusion e | exact cmR_lt | exact cmR_le | exact cmR_gt | exact cmR_ge | exact cmR_eq hu | exact cmR_ne hu | exact cmR_in hu | exact cmR_notin hu

/-! ### subscripts -/
theorem atI_rel {K : PySem.W.Frag} {h : Hm} {ρ : List Addr} {H : Hp} {xs : List D} {vs : List V} {i : Int} {d : D} (q : Rels K h ρ H xs vs) (e : atI xs i = some d) : ∃ v, atI vs i = some v ∧ Rel K h ρ H d v := by
  unfold atI at e ⊢
  rw [← q.length]
  cases k : ixN xs.length i with
  | none => rw [k] at e; cases e
  | some j =>
    rw [k] at e
    exact q.get e
theorem ixR_any : IxR X (DR2 X.K ixD) := by
  intro value slice pins s σ H x y v u Q I rx ry hq hs
  obtain ⟨h, ρ, d, e, hr, r1, r2, q⟩ := hq
  cases e with
  | int i =>
    have ey := rI_int r2
    subst ey
    have go : ∀ xs, itemsOf h d = some xs → (match atI xs i with
        | some y => Res.ok y h
        | none => .stuck).wp (fun r h' => ∀ v H' ρ', HR X.K h' ρ' H' → Kp h ρ H h' ρ' H' → Rel X.K h' ρ' H' r v → Q v H') → wpAny (model X.prog X.w) X.A (subscriptTail value slice v u) (EP X pins σ Q) X.xe s := by
      intro xs e q
      cases e2 : atI xs i with
      | none => rw [e2] at q; exact False.elim q
      | some z =>
        rw [e2] at q
        obtain ⟨a, vs, rfl, hsq, rs⟩ := r1.seq hr e
        obtain ⟨w, hw, rw'⟩ := atI_rel rs e2
        rcases hsq with hsq | hsq
        · exact ix_list value slice pins s σ H _ _ v u Q I rx ry ⟨a, vs, i, w, rfl, rfl, hsq, hw, q _ _ _ hr Kps.refl rw'⟩ hs
        · exact ix_tup value slice pins s σ H _ _ v u Q I rx ry ⟨a, vs, i, w, rfl, rfl, hsq, hw, q _ _ _ hr Kps.refl rw'⟩ hs
    cases d with
    | str z =>
      have ex := rI_str r1
      subst ex
      have q : (match atI z.cps.toList i with
        | some c => Res.guard (decide (z.length ≤ LIM)) (Res.ok (D.str ⟨#[c]⟩) h)
        | none => Res.stuck).wp _ := q
      cases e2 : atI z.cps.toList i with
      | none => rw [e2] at q; exact False.elim q
      | some c =>
        rw [e2] at q
        obtain ⟨c1, q⟩ := Res.wp_guard q
        exact ix_str value slice pins s σ H _ _ v u Q I rx ry ⟨z, i, c, rfl, rfl, le_sz c1, e2, q _ _ _ hr Kps.refl (.str _)⟩ hs
    | tup xs => exact go xs rfl q
    | lst xs => exact go xs rfl q
    | ref n =>
      have q : (match listOf? h n with
        | some xs => match atI xs i with
          | some y => Res.ok y h
          | none => Res.stuck
        | none => Res.stuck).wp _ := q
      cases e2 : listOf? h n with
      | none => rw [e2] at q; exact False.elim q
      | some xs =>
        rw [e2] at q
        exact go xs e2 q
    | _ => exact False.elim q
  | _ => cases d <;> exact False.elim q
end

/-! Mini 4: displays, built-ins, isinstance, methods, slices, by values. -/

section
variable {X : Cx} {es : List Expr} {t : TA} {pos : Pos}
/-- a tuple's display; it is known to the object -/
def tTupF (t : TA) : TE := fun σ H Q => t σ H fun xs H1 => xs.length ≤ sizeLine ∧ ∀ (p : Addr) (o : Obj), H1 p = none → o.dict = none → Q (.ref p) (upd H1 p (.frz o (.tup xs)))
theorem pe_tupF {x1} (h : PA X es t) : PE X (.Tuple es x1 pos) (tTupF t) := by
  refine ⟨fun pins s σ H Q I hq => ?_⟩
  refine wpAny_Tuple_spliced (thn (h.run pos pins s σ H _ I hq) fun us s1 ⟨xs, H1, I1, r, z, q⟩ => ⟨by rw [← r.length]; exact z, ?_⟩)
  have hf : H1 s1.heap.objs.size = none := I1.hok.fresh (Nat.le_refl _)
  refine ⟨.ref s1.heap.objs.size, upd H1 s1.heap.objs.size (.frz { cls := .type "tuple", data := .seq us.toArray } (.tup xs)), I1.laid (t' := s1.toks) (fun b u e => Heap.get?_push_of_some _ e) (Nat.le_refl _) ?_, rfl, q _ _ hf rfl⟩
  exact ⟨Heap.get?_push_size _ rfl, z, us, r, ⟨_, Heap.get?_push_size _ rfl, rfl, _, rfl⟩⟩
/-- tuple(xs) of a list: known to the object -/
theorem call_tupleF : CallR X (.type "tuple") (fun xs H Q => ∃ p ys, xs = [.ref p] ∧ ((SqL X.K H p ys ∧ ∀ (l : Addr) (o : Obj), H l = none → o.dict = none → Q (.ref l) (upd H l (.frz o (.tup ys)))) ∨ (SqT X.K H p ys ∧ Q (.ref p) H))) := by
  intro pins s σ H xs us Q I r h
  obtain ⟨p, ys, rfl, h⟩ := h
  obtain ⟨u, rfl, rx⟩ := vals1 r
  cases rx
  rcases h with ⟨hq, q⟩ | ⟨hq, q⟩
  · obtain ⟨its, r', pl, hz⟩ := I.list hq
    have hlen := r'.length
    refine call_tuple_list pl.isList (fun h' kp => ?_) (by simp only [List.size_toArray] <;> omega)
    have I1 : Inv X pins σ H { s with heap := h' } := I.kept (t' := s.toks) kp
    have I2 : Inv X pins σ (upd H h'.objs.size (.frz { cls := .type "tuple", data := .seq its.toArray } (.tup ys))) { s with heap := h'.push { cls := .type "tuple", data := .seq its.toArray } } :=
      I1.laid (t' := s.toks) (fun b o e => Heap.get?_push_of_some _ e) (Nat.le_refl _) (show ObjOk X.prog X.w _ _ _ (.frz _ (.tup ys)) from ⟨Heap.get?_push_size _ rfl, hz, its, r', IsTup.new _ _⟩)
    exact ⟨.ref h'.objs.size, _, I2, rfl, q _ _ (I1.hok.fresh (Nat.le_refl _)) rfl⟩
  · obtain ⟨its, r', pl, hz⟩ := I.tuple hq
    exact call_tuple_same pl ⟨.ref p, H, I, rfl, q⟩
theorem callW {f : Value} {r r' : List V → Hp → VK → Prop} (p : CallR X f r) (w : ∀ xs H Q, r' xs H Q → r xs H Q) : CallR X f r' := fun pins s σ H xs us Q I rs q => p pins s σ H xs us Q I rs (w xs H Q q)

section
variable {K : PySem.W.Frag} {h : Hm} {ρ : List Addr} {H : Hp}
theorem rels1 {d : D} {vs : List V} (r : Rels K h ρ H [d] vs) : ∃ v, vs = [v] ∧ Rel K h ρ H d v := by
  cases r with
  | cons a b => cases b; exact ⟨_, rfl, a⟩
theorem rels2 {d e : D} {vs : List V} (r : Rels K h ρ H [d, e] vs) : ∃ v w, vs = [v, w] ∧ Rel K h ρ H d v ∧ Rel K h ρ H e w := by
  cases r with
  | cons a b =>
    obtain ⟨w, rfl, q⟩ := rels1 b
    exact ⟨_, w, rfl, a, q⟩
theorem bools_rel : ∀ {xs : List D} {bs : List Bool} {vs : List V}, boolsOf xs = some bs → Rels K h ρ H xs vs → vs = bs.map V.bl
  | [], _, _, e, r => by cases e; cases r; rfl
  | x :: xs, bs, _, e, r => by
    cases r with
    | cons a b =>
      cases x with
      | bl c =>
        have e : (boolsOf xs).map (c :: ·) = some bs := e
        cases k : boolsOf xs with
        | none => rw [k] at e; cases e
        | some cs =>
          rw [k] at e
          cases e
          rw [rI_bl a, bools_rel k b] <;> rfl
      | _ => cases e
theorem ints_rel : ∀ {xs : List D} {bs : List Int} {vs : List V}, intsOf xs = some bs → Rels K h ρ H xs vs → vs = bs.map V.int
  | [], _, _, e, r => by cases e; cases r; rfl
  | x :: xs, bs, _, e, r => by
    cases r with
    | cons a b =>
      cases x with
      | int c =>
        have e : (intsOf xs).map (c :: ·) = some bs := e
        cases k : intsOf xs with
        | none => rw [k] at e; cases e
        | some cs =>
          rw [k] at e
          cases e
          rw [rI_int a, ints_rel k b] <;> rfl
      | _ => cases e
theorem strs_rel : ∀ {xs : List D} {bs : List Str} {vs : List V}, strsOf xs = some bs → Rels K h ρ H xs vs → vs = bs.map V.str
  | [], _, _, e, r => by cases e; cases r; rfl
  | x :: xs, bs, _, e, r => by
    cases r with
    | cons a b =>
      cases x with
      | str c =>
        have e : (strsOf xs).map (c :: ·) = some bs := e
        cases k : strsOf xs with
        | none => rw [k] at e; cases e
        | some cs =>
          rw [k] at e
          cases e
          rw [rI_str a, strs_rel k b] <;> rfl
      | _ => cases e
theorem Rel.lstv {d : D} {v : V} {xs : List D} (r : HR K h ρ H) (q : Rel K h ρ H d v) (i : lstOf h d = some xs) : ∃ a vs, v = .ref a ∧ SqL K H a vs ∧ Rels K h ρ H xs vs := by
  cases q with
  | lst l q =>
    cases i
    exact ⟨_, _, rfl, l.sq, q⟩
  | @ref n a e =>
    obtain ⟨vs, h1, h2⟩ := r.ref e i
    exact ⟨a, vs, rfl, SqL.of h1, h2⟩
  | _ => cases i
end

def biVal : Bi → Value
  | .len => .builtin "len" | .abs => .builtin "abs" | .int => .type "int" | .tuple => .type "tuple" | .list => .type "list"
  | .all => .builtin "all" | .any => .builtin "any" | .sum => .builtin "sum" | .max2 => .builtin "max" | .min2 => .builtin "min" | .str => .type "str" | .sorted => .builtin "sorted" | .repr => .builtin "repr"
def biName : Bi → Str
  | .len => "len" | .abs => "abs" | .int => "int" | .tuple => "tuple" | .list => "list"
  | .all => "all" | .any => "any" | .sum => "sum" | .max2 => "max" | .min2 => "min" | .str => "str" | .sorted => "sorted" | .repr => "repr"

theorem biR_len : CallR X (.builtin "len") (DRs X.K (biD .len)) := by
  intro pins s σ H xs us Q I rs hq
  obtain ⟨h, ρ, ds, hr, r, q⟩ := hq
  have go : ∀ d ys, ds = [d] → itemsOf h d = some ys → (∀ v H' ρ', HR X.K h ρ' H' → Kp h ρ H h ρ' H' → Rel X.K h ρ' H' (.int ys.length) v → Q v H') → wpAny (model X.prog X.w) X.A (call (.builtin "len") us) (EP X pins σ Q) X.xe s := by
    rintro d ys rfl e q
    obtain ⟨v, rfl, rv⟩ := rels1 r
    obtain ⟨a, vs, rfl, hsq, rss⟩ := rv.seq hr e
    exact call_len_seq pins s σ H _ us Q I rs ⟨a, vs, rfl, hsq, by rw [← rss.length]; exact q _ _ _ hr Kps.refl (.int _)⟩
  match ds, r, q with
  | [], _, q => exact False.elim q
  | [.str x], r, q =>
    obtain ⟨c, q⟩ := Res.wp_guard q
    obtain ⟨v, rfl, rv⟩ := rels1 r
    exact call_len_str pins s σ H _ us Q I rs ⟨x, by rw [rI_str rv], le_sz c, q _ _ _ hr Kps.refl (.int _)⟩
  | [.tup ys], r, q => exact go _ _ rfl rfl q
  | [.lst ys], r, q => exact go _ _ rfl rfl q
  | [.ref n], r, q =>
    have q : (match listOf? h n with
      | some xs => Res.ok (D.int xs.length) h
      | none => Res.stuck).wp _ := q
    cases e : listOf? h n with
    | none => rw [e] at q; exact False.elim q
    | some ys =>
      rw [e] at q
      exact go _ ys rfl e q
  | [.non], _, q => exact False.elim q
  | [.bl _], _, q => exact False.elim q
  | [.int _], _, q => exact False.elim q
  | [.wtup _], _, q => exact False.elim q
  | [.dict _ _], _, q => exact False.elim q
  | [.fn _ _], _, q => exact False.elim q
  | a :: b :: c, _, q => cases a <;> exact False.elim q
theorem biR_abs : CallR X (.builtin "abs") (DRs X.K (biD .abs)) := callW call_abs fun xs H Q hq => by
  obtain ⟨h, ρ, ds, hr, r, q⟩ := hq
  match ds, r, q with
  | [.int i], r, q =>
    obtain ⟨v, rfl, rv⟩ := rels1 r
    exact ⟨i, by rw [rI_int rv], q _ _ _ hr Kps.refl (.int _)⟩
theorem call_or {t : Value} {r1 r2 : List V → Hp → VK → Prop} (a : CallR X t r1) (b : CallR X t r2) : CallR X t (fun xs H Q => r1 xs H Q ∨ r2 xs H Q) := by
  intro pins s σ H xs us Q I rs h
  rcases h with h | h
  · exact a _ _ _ _ _ _ _ I rs h
  · exact b _ _ _ _ _ _ _ I rs h
theorem biR_int : CallR X (.type "int") (DRs X.K (biD .int)) := callW (call_or call_int1 call_int_str) fun xs H Q hq => by
  obtain ⟨h, ρ, ds, hr, r, q⟩ := hq
  match ds, r, q with
  | [.int i], r, q =>
    obtain ⟨v, rfl, rv⟩ := rels1 r
    exact .inl (.inl ⟨i, by rw [rI_int rv], q _ _ _ hr Kps.refl (.int _)⟩)
  | [.bl i], r, q =>
    obtain ⟨v, rfl, rv⟩ := rels1 r
    exact .inl (.inr ⟨i, by rw [rI_bl rv], q _ _ _ hr Kps.refl (.int _)⟩)
  | [.str z], r, q =>
    obtain ⟨v, rfl, rv⟩ := rels1 r
    have q : (match PySem.intText? z with
      | some n => Res.guard (decide (z.length ≤ 640)) (.ok (D.int n) h)
      | none => Res.stuck).wp _ := q
    cases e : PySem.intText? z with
    | none => rw [e] at q; exact False.elim q
    | some n =>
      rw [e] at q
      obtain ⟨c, q⟩ := Res.wp_guard q
      exact .inr ⟨z, n, by rw [rI_str rv], e, of_decide_eq_true c, q _ _ _ hr Kps.refl (.int _)⟩
theorem biR_tuple : CallR X (.type "tuple") (DRs X.K (biD .tuple)) := callW call_tupleF fun xs H Q hq => by
  obtain ⟨h, ρ, ds, hr, r, q⟩ := hq
  match ds, r, q with
  | [.tup ys], r, q =>
    obtain ⟨v, rfl, rv⟩ := rels1 r
    cases rv with
    | tup l rr => exact ⟨_, _, rfl, .inr ⟨l.sq, q _ _ _ hr Kps.refl (.tup l rr)⟩⟩
  | [.lst ys], r, q =>
    obtain ⟨v, rfl, rv⟩ := rels1 r
    cases rv with
    | lst l rr => exact ⟨_, _, rfl, .inl ⟨l.sq, fun p o hp ho => q _ _ _ (hr.new hp) (Kp.new hr hp) (Rel.newT hr hp ho rr)⟩⟩
  | [.ref n], r, q =>
    have q : (match listOf? h n with
      | some xs => Res.ok (D.tup xs) h
      | none => Res.stuck).wp _ := q
    cases e : listOf? h n with
    | none => rw [e] at q; exact False.elim q
    | some ys =>
      rw [e] at q
      obtain ⟨v, rfl, rv⟩ := rels1 r
      obtain ⟨a, vs, rfl, hsq, rr⟩ := rv.lstv hr e
      exact ⟨_, _, rfl, .inl ⟨hsq, fun p o hp ho => q _ _ _ (hr.new hp) (Kp.new hr hp) (Rel.newT hr hp ho rr)⟩⟩
  | [], _, q => exact False.elim q
  | [.non], _, q => exact False.elim q
  | [.bl _], _, q => exact False.elim q
  | [.int _], _, q => exact False.elim q
  | [.str _], _, q => exact False.elim q
  | [.wtup _], _, q => exact False.elim q
  | [.dict _ _], _, q => exact False.elim q
  | [.fn _ _], _, q => exact False.elim q
  | a :: b :: c, _, q => cases a <;> exact False.elim q
theorem biR_list : CallR X (.type "list") (DRs X.K (biD .list)) := callW call_list_of fun xs H Q hq => by
  obtain ⟨h, ρ, ds, hr, r, q⟩ := hq
  have go : ∀ d ys, ds = [d] → itemsOf h d = some ys → (∀ v H' ρ', HR X.K h ρ' H' → Kp h ρ H h ρ' H' → Rel X.K h ρ' H' (.lst ys) v → Q v H') → ∃ p ys, xs = [.ref p] ∧ (SqL X.K H p ys ∨ SqT X.K H p ys) ∧ ∀ l, H l = none → Q (.ref l) (upd H l (.lst ys)) := by
    rintro d ys rfl e q
    obtain ⟨v, rfl, rv⟩ := rels1 r
    obtain ⟨a, vs, rfl, hsq, rr⟩ := rv.seq hr e
    exact ⟨_, _, rfl, hsq, fun p hp => q _ _ _ (hr.new hp) (Kp.new hr hp) (Rel.newL hr hp rr)⟩
  match ds, r, q with
  | [.tup ys], r, q => exact go _ _ rfl rfl q
  | [.lst ys], r, q => exact go _ _ rfl rfl q
  | [.ref n], r, q =>
    have q : (match listOf? h n with
      | some xs => Res.ok (D.lst xs) h
      | none => Res.stuck).wp _ := q
    cases e : listOf? h n with
    | none => rw [e] at q; exact False.elim q
    | some ys =>
      rw [e] at q
      exact go _ ys rfl e q
  | [], _, q => exact False.elim q
  | [.non], _, q => exact False.elim q
  | [.bl _], _, q => exact False.elim q
  | [.int _], _, q => exact False.elim q
  | [.str _], _, q => exact False.elim q
  | [.wtup _], _, q => exact False.elim q
  | [.dict _ _], _, q => exact False.elim q
  | [.fn _ _], _, q => exact False.elim q
  | a :: b :: c, _, q => cases a <;> exact False.elim q
theorem lst_bools {K : PySem.W.Frag} {h : Hm} {ρ : List Addr} {H : Hp} {d : D} {v : V} {bs : List Bool} (hr : HR K h ρ H) (rv : Rel K h ρ H d v) (e : (lstOf h d).bind boolsOf = some bs) : ∃ a, v = .ref a ∧ SqL K H a (bs.map V.bl) := by
  cases k : lstOf h d with
  | none => rw [k] at e; cases e
  | some ys =>
    rw [k] at e
    obtain ⟨a, vs, rfl, hsq, rr⟩ := rv.lstv hr k
    have := bools_rel (show boolsOf ys = some bs from e) rr
    subst this
    exact ⟨a, rfl, hsq⟩
theorem biR_all (hc : X.calm = true) : CallR X (.builtin "all") (DRs X.K (biD .all)) := callW (cr_all hc) fun xs H Q hq => by
  obtain ⟨h, ρ, ds, hr, r, q⟩ := hq
  match ds, r, q with
  | [d], r, q =>
    have q : (match (lstOf h d).bind boolsOf with
      | some bs => Res.ok (D.bl (bs.all id)) h
      | none => Res.stuck).wp _ := q
    cases e : (lstOf h d).bind boolsOf with
    | none => rw [e] at q; exact False.elim q
    | some bs =>
      rw [e] at q
      obtain ⟨v, rfl, rv⟩ := rels1 r
      obtain ⟨a, rfl, hs⟩ := lst_bools hr rv e
      exact ⟨a, bs, rfl, hs, q _ _ _ hr Kps.refl (.bl _)⟩
theorem biR_any (hc : X.calm = true) : CallR X (.builtin "any") (DRs X.K (biD .any)) := callW (cr_any hc) fun xs H Q hq => by
  obtain ⟨h, ρ, ds, hr, r, q⟩ := hq
  match ds, r, q with
  | [d], r, q =>
    have q : (match (lstOf h d).bind boolsOf with
      | some bs => Res.ok (D.bl (bs.any id)) h
      | none => Res.stuck).wp _ := q
    cases e : (lstOf h d).bind boolsOf with
    | none => rw [e] at q; exact False.elim q
    | some bs =>
      rw [e] at q
      obtain ⟨v, rfl, rv⟩ := rels1 r
      obtain ⟨a, rfl, hs⟩ := lst_bools hr rv e
      exact ⟨a, bs, rfl, hs, q _ _ _ hr Kps.refl (.bl _)⟩
theorem biR_sum (hc : X.calm = true) : CallR X (.builtin "sum") (DRs X.K (biD .sum)) := callW (cr_sum hc) fun xs H Q hq => by
  obtain ⟨h, ρ, ds, hr, r, q⟩ := hq
  match ds, r, q with
  | [d], r, q =>
    have q : (match (lstOf h d).bind intsOf with
      | some bs => Res.ok (D.int bs.sum) h
      | none => Res.stuck).wp _ := q
    cases e : (lstOf h d).bind intsOf with
    | none => rw [e] at q; exact False.elim q
    | some bs =>
      rw [e] at q
      obtain ⟨v, rfl, rv⟩ := rels1 r
      cases k : lstOf h d with
      | none => rw [k] at e; cases e
      | some ys =>
        rw [k] at e
        obtain ⟨a, vs, rfl, hsq, rr⟩ := rv.lstv hr k
        have := ints_rel (show intsOf ys = some bs from e) rr
        subst this
        exact ⟨a, bs, rfl, hsq, q _ _ _ hr Kps.refl (.int _)⟩
theorem biR_max2 (hc : X.calm = true) : CallR X (.builtin "max") (DRs X.K (biD .max2)) := callW (call_max2 hc) fun xs H Q hq => by
  obtain ⟨h, ρ, ds, hr, r, q⟩ := hq
  match ds, r, q with
  | [.int i, .int j], r, q =>
    obtain ⟨v, w, rfl, rv, rw'⟩ := rels2 r
    exact ⟨i, j, by rw [rI_int rv, rI_int rw'], q _ _ _ hr Kps.refl (.int _)⟩
theorem biR_min2 (hc : X.calm = true) : CallR X (.builtin "min") (DRs X.K (biD .min2)) := callW (call_min2 hc) fun xs H Q hq => by
  obtain ⟨h, ρ, ds, hr, r, q⟩ := hq
  match ds, r, q with
  | [.int i, .int j], r, q =>
    obtain ⟨v, w, rfl, rv, rw'⟩ := rels2 r
    exact ⟨i, j, by rw [rI_int rv, rI_int rw'], q _ _ _ hr Kps.refl (.int _)⟩
theorem biR_str : CallR X (.type "str") (DRs X.K (biD .str)) := callW call_str_int fun xs H Q hq => by
  obtain ⟨h, ρ, ds, hr, r, q⟩ := hq
  match ds, r, q with
  | [.int i], r, q =>
    obtain ⟨c, q⟩ := Res.wp_guard q
    obtain ⟨v, rfl, rv⟩ := rels1 r
    exact ⟨i, by rw [rI_int rv], of_decide_eq_true c, q _ _ _ hr Kps.refl (.str _)⟩

/-! ### sorted -/
theorem pairsOf_eq : ∀ {ds : List D} {ps : List (Int × Int)}, pairsOf ds = some ps → ds = unpairs ps
  | [], _, e => by cases e; rfl
  | d :: ds, ps, e => by
    unfold pairsOf at e
    split at e
    · rename_i z; cases z
    · rename_i i j r z
      cases z
      cases k : pairsOf ds with
      | none => rw [k] at e; cases e
      | some qs =>
        rw [k] at e
        cases e
        rw [pairsOf_eq k]
        rfl
    · cases e
theorem insP_perm (p : Int × Int) : ∀ l, (insP p l).Perm (p :: l)
  | [] => .refl _
  | q :: r => by
    unfold insP
    split
    · exact ((insP_perm p r).cons q).trans (.swap p q r)
    · exact .refl _
theorem sortP_perm : ∀ l, (sortP l).Perm l
  | [] => .refl _
  | p :: r => (insP_perm p _).trans ((sortP_perm r).cons p)
theorem lexB_irrefl (p : Int × Int) : SrtO.lexB p p = false := SrtO.lexB_no.mpr (by omega)
theorem lexB_le_trans {p q r : Int × Int} (h1 : SrtO.lexB q p = false) (h2 : SrtO.lexB r q = false) : SrtO.lexB r p = false := by
  have a := SrtO.lexB_no.mp h1
  have b := SrtO.lexB_no.mp h2
  refine SrtO.lexB_no.mpr ?_
  omega
theorem lexB_antisymm {p q : Int × Int} (h1 : SrtO.lexB q p = false) (h2 : SrtO.lexB p q = false) : p = q := by
  have a := SrtO.lexB_no.mp h1
  have b := SrtO.lexB_no.mp h2
  refine Prod.ext ?_ ?_ <;> omega
theorem insP_srt (p : Int × Int) : ∀ {l : List (Int × Int)}, l.Pairwise (fun x y => SrtO.lexB y x = false) → (insP p l).Pairwise (fun x y => SrtO.lexB y x = false)
  | [], _ => List.pairwise_singleton _ _
  | q :: r, h => by
    obtain ⟨h1, h2⟩ := List.pairwise_cons.mp h
    unfold insP
    split
    · rename_i c
      refine List.pairwise_cons.mpr ⟨fun y hy => ?_, insP_srt p h2⟩
      rcases List.mem_cons.mp ((insP_perm p r).mem_iff.mp hy) with e | hy
      · subst e
        have c := SrtO.lexB_iff.mp c
        refine SrtO.lexB_no.mpr ?_
        omega
      · exact h1 y hy
    · rename_i c
      have c : SrtO.lexB q p = false := by cases k : SrtO.lexB q p with
        | true => exact absurd k c
        | false => rfl
      refine List.pairwise_cons.mpr ⟨fun y hy => ?_, h⟩
      rcases List.mem_cons.mp hy with e | hy
      · subst e
        exact c
      · exact lexB_le_trans c (h1 y hy)
theorem sortP_srt : ∀ l : List (Int × Int), (sortP l).Pairwise (fun x y => SrtO.lexB y x = false)
  | [] => .nil
  | p :: r => insP_srt p (sortP_srt r)
theorem srt_uniq : ∀ {l m : List (Int × Int)}, l.Perm m → l.Pairwise (fun x y => SrtO.lexB y x = false) → m.Pairwise (fun x y => SrtO.lexB y x = false) → l = m
  | [], m, p, _, _ => (p.symm.eq_nil).symm
  | x :: l, [], p, _, _ => p.eq_nil
  | x :: l, y :: m, p, hl, hm => by
    obtain ⟨a1, a2⟩ := List.pairwise_cons.mp hl
    obtain ⟨b1, b2⟩ := List.pairwise_cons.mp hm
    have e : x = y := by
      have h1 : SrtO.lexB y x = false := by
        rcases List.mem_cons.mp (p.symm.mem_iff.mp (List.mem_cons_self (a := y) (l := m))) with e | h
        · rw [e]; exact lexB_irrefl _
        · exact a1 y h
      have h2 : SrtO.lexB x y = false := by
        rcases List.mem_cons.mp (p.mem_iff.mp (List.mem_cons_self (a := x) (l := l))) with e | h
        · rw [e]; exact lexB_irrefl _
        · exact b1 x h
      exact lexB_antisymm h1 h2
    subst e
    rw [srt_uniq p.cons_inv a2 b2]
/-- a pair as it lies in a heap -/
def pairAt (h : Heap) : Value → Int × Int
  | .ref t => match h.get? t with
    | some o => match o.data with
      | .seq its _ => match its.toList with
        | [.int i _, .int j _] => (i, j)
        | _ => (0, 0)
      | _ => (0, 0)
    | none => (0, 0)
  | _ => (0, 0)
/-- carried along a permutation -/
theorem rel_perm {K : PySem.W.Frag} {h : Hm} {ρ : List Addr} {H : Hp} {out us : List Value} (p : us.Perm out) : ∀ {ds : List D} {vs : List V}, Rels K h ρ H ds vs → Vals vs us → ∃ ds' vs', Rels K h ρ H ds' vs' ∧ Vals vs' out ∧ ds.Perm ds' := by
  induction p with
  | nil =>
    intro ds vs r q
    exact ⟨ds, vs, r, q, .refl _⟩
  | cons x p ih =>
    intro ds vs r q
    cases q with
    | cons a b =>
      cases r with
      | cons c d =>
        obtain ⟨ds', vs', r', q', p'⟩ := ih d b
        exact ⟨_ :: ds', _ :: vs', .cons c r', .cons a q', p'.cons _⟩
  | swap x y l =>
    intro ds vs r q
    cases q with
    | cons a b =>
      cases b with
      | cons a2 b =>
        cases r with
        | cons c d =>
          cases d with
          | cons c2 d => exact ⟨_, _, .cons c2 (.cons c d), .cons a2 (.cons a b), .swap _ _ _⟩
  | trans p1 p2 ih1 ih2 =>
    intro ds vs r q
    obtain ⟨ds1, vs1, r1, q1, p1'⟩ := ih1 r q
    obtain ⟨ds2, vs2, r2, q2, p2'⟩ := ih2 r1 q1
    exact ⟨ds2, vs2, r2, q2, p1'.trans p2'⟩
theorem toPys_len : ∀ {es : List D} {ps : List PyData}, toPys es = some ps → es.length = ps.length
  | [], ps, e => by
    unfold toPys at e
    cases e
    rfl
  | d :: es, ps, e => by
    unfold toPys at e
    split at e
    · rename_i p q e1 e2
      cases e
      rw [List.length_cons, List.length_cons, toPys_len e2]
    · cases e
theorem zip_snd {α β : Type} : ∀ {xs : List α} {ys : List β}, xs.length = ys.length → (xs.zip ys).map (fun b => b.2) = ys
  | [], [], _ => rfl
  | x :: xs, y :: ys, h => by
    rw [List.zip_cons_cons, List.map_cons, zip_snd (by simpa using h)]
  | [], _ :: _, h => by simp at h
  | _ :: _, [], h => by simp at h
theorem each_rel {K : PySem.W.Frag} {h : Hm} {ρ : List Addr} {H : Hp} {X : Cx} {pins : List (Addr × Obj)} {σ : L2.St} {s : Shared} (I : Inv X pins σ H s) (e : X.K = K) : ∀ {es : List D} {ps : List PyData} {vs : List V} {us : List Value}, toPys es = some ps → Rels K h ρ H es vs → Vals vs us →
    PySem.W.EachIs (fun u (b : D × PyData) => ∃ v, Rel K h ρ H b.1 v ∧ RelV v u) us (es.zip ps) ∧ PySem.W.EachIs (fun u (b : D × PyData) => ∃ as, Reads s.heap u b.2 as) us (es.zip ps)
  | [], ps, vs, us, t, r, q => by
    unfold toPys at t
    cases t
    cases r
    cases q
    exact ⟨.nil, .nil⟩
  | d :: es, ps, vs, us, t, r, q => by
    unfold toPys at t
    split at t
    · rename_i p ps' e1 e2
      cases t
      cases r with
      | cons a b =>
        cases q with
        | cons c d =>
          obtain ⟨i1, i2⟩ := each_rel I e e2 b d
          refine ⟨.cons ⟨_, a, c⟩ i1, .cons ?_ i2⟩
          subst e
          exact (a.py e1).reads I _ _ _ c
    · cases t
theorem each_back {K : PySem.W.Frag} {h : Hm} {ρ : List Addr} {H : Hp} : ∀ {bs : List (D × PyData)} {us : List Value}, PySem.W.EachIs (fun u (b : D × PyData) => ∃ v, Rel K h ρ H b.1 v ∧ RelV v u) us bs → ∃ vs, Rels K h ρ H (bs.map fun b => b.1) vs ∧ Vals vs us
  | [], us, e => by
    cases e
    exact ⟨[], .nil, .nil⟩
  | b :: bs, us, e => by
    cases e with
    | cons a r =>
      obtain ⟨v, a1, a2⟩ := a
      obtain ⟨vs, b1, b2⟩ := each_back r
      exact ⟨v :: vs, .cons a1 b1, .cons a2 b2⟩
theorem biR_sorted (hu : X.A.units + 64 < cLine) : CallR X (.builtin "sorted") (DRs X.K (biD .sorted)) := by
  intro pins s σ H xs us Q I rs hq
  obtain ⟨h, ρ, ds, hr, r, q⟩ := hq
  match ds, r, q with
  | [], _, q => exact False.elim q
  | a :: b :: c, _, q => cases a <;> exact False.elim q
  | [d], r, q =>
    have qe : biD .sorted [d] h = (match lstOf h d with
      | some es => sortedR es h
      | none => Res.stuck) := by cases d <;> rfl
    rw [qe] at q
    cases k : lstOf h d with
    | none => rw [k] at q; exact False.elim q
    | some es =>
      rw [k] at q
      have q : (match pairsOf es with
        | some ps => Res.ok (D.lst (unpairs (sortP ps))) h
        | none => dataR es h).wp _ := q
      cases k2 : pairsOf es with
      | none =>
        rw [k2] at q
        have q : (match toPys es with
          | some ps => Res.guard (alikeB ps && (ps.all nonTup || ps.all someTup) && (ps.all fun p => decide (p.depth ≤ 60)) && decide (es.length ≤ 1000)) (Res.ok (D.lst (sortD es ps)) h)
          | none => Res.stuck).wp _ := q
        cases k3 : toPys es with
        | none => rw [k3] at q; exact False.elim q
        | some ps =>
          rw [k3] at q
          obtain ⟨c, q⟩ := Res.wp_guard q
          rw [Bool.and_eq_true, Bool.and_eq_true, Bool.and_eq_true, decide_eq_true_eq] at c
          obtain ⟨⟨⟨c1, c2⟩, c3⟩, c4⟩ := c
          obtain ⟨v, rfl, rv⟩ := rels1 r
          obtain ⟨a, vs, rfl, hs, rr⟩ := rv.lstv hr k
          obtain ⟨its, ri, hl, hz⟩ := I.list hs
          obtain ⟨u, rfl, ru⟩ := vals1 rs
          obtain rfl : u = Value.ref a := ru
          obtain ⟨i1, i2⟩ := each_rel I rfl k3 rr ri
          have zs := zip_snd (toPys_len k3)
          have hzl : (es.zip ps).length = es.length := by rw [List.length_zip, ← toPys_len k3, Nat.min_self]
          refine PySem.W.sorted_data (bs := es.zip ps) (enc := fun b => b.2) hl.isList i1 i2 ?_ ?_ ?_ ?_ fun out ho eo => ?_
          · rw [zs]
            intro p hp p' hp'
            exact List.all_eq_true.mp (List.all_eq_true.mp c1 p hp) p' hp'
          · rw [zs]
            rw [Bool.or_eq_true] at c2
            rcases c2 with c2 | c2
            · refine .inr fun p hp => ?_
              have := List.all_eq_true.mp c2 p hp
              cases p <;> first | exact Bool.noConfusion this | exact ⟨(fun z => by cases z), (fun _ z => by cases z)⟩
            · refine .inl fun p hp => ?_
              have := List.all_eq_true.mp c2 p hp
              cases p <;> first | exact Bool.noConfusion this | skip
              rename_i xs
              cases xs with
              | nil => exact Bool.noConfusion this
              | cons x xs => exact ⟨x, xs, rfl⟩
          · rw [hzl]
            exact Nat.le_trans c4 (show (1000 : Nat) ≤ 2 ^ 24 by decide)
          · intro b hb
            have := of_decide_eq_true (List.all_eq_true.mp c3 b.2 (List.of_mem_zip hb).2)
            omega
          · obtain ⟨vs', r', q'⟩ := each_back eo
            obtain ⟨n, hn⟩ := sortedAll_at s.heap its out.toArray
            have hd : s.heap.objs.size ≤ s.heap.objs.size + 1 := Nat.le_succ _
            have hp : H (s.heap.objs.size + 1) = none := I.hok.fresh hd
            refine ⟨.ref (s.heap.objs.size + 1), upd H (s.heap.objs.size + 1) (.lst vs'), I.laid (t' := s.toks) (fun _ _ => sortedAll_old) hd ⟨?_, out, n, q', hn⟩, rfl, q _ _ _ (hr.new hp) (Kp.new hr hp) (Rel.newL hr hp r')⟩
            rw [q'.length, ho, hzl]
            exact Nat.le_trans c4 (show (1000 : Nat) ≤ 2 ^ 24 by decide)
      | some ps =>
        rw [k2] at q
        obtain ⟨v, rfl, rv⟩ := rels1 r
        obtain ⟨a, vs, rfl, hs, rr⟩ := rv.lstv hr k
        obtain ⟨its, ri, hl, hz⟩ := I.list hs
        obtain ⟨u, rfl, ru⟩ := vals1 rs
        obtain rfl : u = Value.ref a := ru
        have ee := pairsOf_eq k2
        -- each item
        have at1 : ∀ (i j : Int) (v : V) (u : Value), Rel X.K h ρ H (.tup [.int i, .int j]) v → RelV v u → Srt.IsPair s.heap u i j ∧ pairAt s.heap u = (i, j) := by
          intro i j v u rv ru
          cases rv with
          | @tup t _ ws l rr =>
            obtain ⟨x, y, rfl, rx, ry⟩ := rels2 rr
            rw [rI_int rx, rI_int ry] at l
            obtain rfl : u = Value.ref t := ru
            obtain ⟨its2, r2, ⟨o, ho, hc, n, hd⟩, _⟩ := I.tuple l.sq
            obtain ⟨u1, u2, rfl, rt1, rt2⟩ := vals2 r2
            obtain ⟨t1, rfl⟩ := rt1
            obtain ⟨t2, rfl⟩ := rt2
            refine ⟨⟨t, o, t1, t2, n, rfl, ho, hc, hd⟩, ?_⟩
            unfold pairAt
            simp only [ho, hd]
        have all1 : ∀ (ps : List (Int × Int)) (vs : List V) (us : List Value), Rels X.K h ρ H (unpairs ps) vs → Vals vs us → us.map (pairAt s.heap) = ps ∧ ∀ u ∈ us, Srt.IsPair s.heap u (pairAt s.heap u).1 (pairAt s.heap u).2 := by
          intro ps
          induction ps with
          | nil =>
            intro vs us r q
            cases r
            cases q
            exact ⟨rfl, fun u hu => absurd hu (by simp)⟩
          | cons p ps ih =>
            intro vs us r q
            cases r with
            | cons c d =>
              cases q with
              | cons a b =>
                obtain ⟨e1, e2⟩ := at1 _ _ _ _ c a
                obtain ⟨e3, e4⟩ := ih _ _ d b
                refine ⟨by rw [List.map_cons, e2, e3], fun u hu => ?_⟩
                rcases List.mem_cons.mp hu with e | hu
                · subst e
                  rw [e2]
                  exact e1
                · exact e4 u hu
        have rr' : Rels X.K h ρ H (unpairs ps) vs := by rw [← ee]; exact rr
        obtain ⟨m1, m2⟩ := all1 ps vs its rr' ri
        refine SrtO.sorted_pairsO (k := pairAt s.heap) hl.isList (by rw [← ri.length]; exact hz) m2 fun h' d out h1 h2 kp hd hn => ?_
        obtain ⟨ds', vs', r', q', p'⟩ := rel_perm h2.perm.symm rr' ri
        have pe : ∃ ps', ds' = unpairs ps' ∧ ps.Perm ps' := by
          have : ∀ {es fs : List D}, es.Perm fs → ∀ ps, es = unpairs ps → ∃ ps', fs = unpairs ps' ∧ ps.Perm ps' := by
            intro es fs p
            induction p with
            | nil => intro ps e; exact ⟨ps, e, .refl _⟩
            | cons x p ih =>
              intro ps e
              cases ps with
              | nil => cases e
              | cons a ps =>
                obtain ⟨e1, e2⟩ := List.cons.inj e
                obtain ⟨ps', e3, e4⟩ := ih ps e2
                exact ⟨a :: ps', by rw [e1, e3]; rfl, e4.cons a⟩
            | swap x y l =>
              intro ps e
              match ps, e with
              | a :: b :: ps, e =>
                obtain ⟨e1, e2⟩ := List.cons.inj e
                obtain ⟨e3, e4⟩ := List.cons.inj e2
                exact ⟨b :: a :: ps, by rw [e1, e3, e4]; rfl, .swap _ _ _⟩
            | trans p1 p2 ih1 ih2 =>
              intro ps e
              obtain ⟨ps1, e1, q1⟩ := ih1 ps e
              obtain ⟨ps2, e2, q2⟩ := ih2 ps1 e1
              exact ⟨ps2, e2, q1.trans q2⟩
          exact this p' ps rfl
        obtain ⟨ps', ed, pp⟩ := pe
        subst ed
        obtain ⟨m3, _⟩ := all1 ps' vs' out r' q'
        have es : ps' = sortP ps := by
          refine srt_uniq ((pp.symm).trans (sortP_perm ps).symm) ?_ (sortP_srt ps)
          rw [← m3]
          exact List.pairwise_map.mpr h1
        subst es
        obtain ⟨n, hn⟩ := hn
        have hp : H d = none := I.hok.fresh hd
        refine ⟨.ref d, upd H d (.lst vs'), I.laid (t' := s.toks) kp hd ⟨?_, out, n, q', hn⟩, rfl, q _ _ _ (hr.new hp) (Kp.new hr hp) (Rel.newL hr hp r')⟩
        have := h2.len
        rw [q'.length, this, ← ri.length]
        exact hz
theorem biR_repr (hg : X.A.guards = some []) (hu : X.A.units + 64 < cLine) : CallR X (.builtin "repr") (DRs X.K (biD .repr)) := by
  intro pins s σ H xs us Q I rs hq
  obtain ⟨h, ρ, ds, hr, r, q⟩ := hq
  match ds, r, q with
  | [], _, q => exact False.elim q
  | _ :: _ :: _, _, q => exact False.elim q
  | [d], r, q =>
    have q : (reprD d h).wp _ := q
    obtain ⟨v, rfl, rv⟩ := rels1 r
    unfold reprD at q
    split at q
    · rename_i p e1 e2
      obtain ⟨c, q⟩ := Res.wp_guard q
      rw [Bool.and_eq_true, Bool.and_eq_true, Bool.and_eq_true] at c
      obtain ⟨⟨⟨c1, c2⟩, c3⟩, c4⟩ := c
      have dp := rv.pyH hr e2
      have ea : ∃ a, v = .ref a := by
        cases rv <;> first | exact ⟨_, rfl⟩ | exact Bool.noConfusion e1
      obtain ⟨a, rfl⟩ := ea
      cases rs with
      | cons ra rs =>
        cases rs
        cases ra
        obtain ⟨as, rd⟩ := Dp.reads I p _ _ dp rfl
        have c2 : p.hasDict = false := by simpa using c2
        have c3 := of_decide_eq_true c3
        exact repr_of_reads' rd c1 (PyData.noDict_hsm c2) hg (by omega) (fun _ _ e => e) (fun h' u tk hk => ⟨.str p.shown, H, I.kept hk, ⟨u, rfl⟩, q _ _ _ hr Kps.refl (.str _)⟩) (le_sz c4)
    · exact False.elim q
end

/-! Mini 5: expressions, piece by piece. -/

def notStar : Expr → Bool
  | .Starred .. => false
  | _ => true
theorem star_cons {e : Expr} {es : List Expr} {env : Env} (h : notStar e = true) : starEach (e :: es) env = (false, eval e env) :: starEach es env := by
  cases e <;> first | exact Bool.noConfusion h | rfl
def noStars (es : List Expr) : Bool := es.all notStar
theorem stars_none {env : Env} {pos : Pos} : ∀ {es : List Expr}, noStars es = true → (backTo pos (starEach es env)).any (·.1) = false
  | [], _ => rfl
  | e :: es, h => by
    unfold noStars at h
    rw [List.all_cons, Bool.and_eq_true] at h
    rw [star_cons h.1]
    have := stars_none (env := env) (pos := pos) (es := es) h.2
    simpa [backTo] using this
theorem stars_all {env : Env} {pos : Pos} : ∀ {es : List Expr}, noStars es = true → (backTo pos (starEach es env)).all (fun x => !x.1) = true
  | [], _ => rfl
  | e :: es, h => by
    unfold noStars at h
    rw [List.all_cons, Bool.and_eq_true] at h
    rw [star_cons h.1]
    have := stars_all (env := env) (pos := pos) (es := es) h.2
    simpa [backTo] using this

section
variable {X : Cx} {pos : Pos}
/-! ### arguments -/
theorem pa_nilD : PA X [] (tA X.K fun _ h => .ok [] h) := PA.w pa_nil fun σV H Q ⟨σ, h, ρ, s, q⟩ => q [] H ρ s Kps.refl .nil
theorem pa_consD {e : Expr} {es : List Expr} {f : Sg → Hm → Res D} {g : Sg → Hm → Res (List D)} (ha : PE X e (tE X.K f)) (hr : PA X es (tA X.K g)) (ns : notStar e = true) :
    PA X (e :: es) (tA X.K fun σ h => (f σ h).bind fun x h1 => (g σ h1).bind fun xs h2 => .ok (x :: xs) h2) := by
  refine PA.w (pa_cons ha hr (star_cons ns)) fun σV H Q ⟨σ, h, ρ, s, q⟩ => ?_
  refine tE_of s q fun d h1 v H1 ρ1 s1 k1 r1 q => ?_
  refine tA_of s1 q fun ds h2 vs H2 ρ2 s2 k2 r2 q => ?_
  exact q _ _ _ s2 (k1.trans k2) (.cons (r1.mono k2) r2)

/-! ### names, constants -/
theorem pe_varD {i : Nat} {x : Str} (hN : X.N[i]? = some x) (hv : Vis X.env.scope x) (hd : (x == ("__debug__" : Str)) = false) (hcd : (x == ("__classdict__" : Str)) = false) : PE X (.Name x pos) (tE X.K fun σ h => match σ[i]? with
    | some (some d) => .ok d h
    | _ => .stuck) := by
  refine PE.w (pe_var hN hv hd hcd) fun σV H Q ⟨σ, h, ρ, s, q⟩ => ?_
  dsimp only at q
  split at q
  · rename_i d e
    obtain ⟨v, a, b⟩ := s.sl.get i d e
    exact ⟨v, a, q v H ρ s Kps.refl b⟩
  · exact False.elim q
theorem pe_constD {e : Expr} {v : V} {d : D} (p : PE X e (tC v)) (r : ∀ H ρ M, RD X.K H ρ M d v) : PE X e (tE X.K fun _ h => .ok d h) :=
  PE.w p fun σV H Q ⟨σ, h, ρ, s, q⟩ => q v H ρ s Kps.refl (r _ _ _)

/-! ### operations -/
theorem pe_opD {a b : Expr} {op : Operator} {fa fb : Sg → Hm → Res D} {g : D → D → Hm → Res D} (o : OpR X (binaryOp op) (DR2 X.K g)) (ha : PE X a (tE X.K fa)) (hb : PE X b (tE X.K fb)) :
    PE X (.BinOp a op b pos) (tE X.K fun σ h => (fa σ h).bind fun x h1 => (fb σ h1).bind fun y h2 => g x y h2) := by
  refine PE.w (pe_op o ha hb) fun σV H Q ⟨σ, h, ρ, s, q⟩ => ?_
  refine tE_of s q fun d h1 v H1 ρ1 s1 k1 r1 q => ?_
  refine tE_of s1 q fun d2 h2 v2 H2 ρ2 s2 k2 r2 q => ?_
  exact ⟨h2, ρ2, d, d2, s2.hp, r1.mono k2, r2, Res.wp_mono q fun r h3 q v3 H3 ρ3 hr3 k3 rr => q v3 H3 ρ3 (s2.of hr3 k3) ((k1.trans k2).trans k3) rr⟩
theorem pe_ixD {a b : Expr} {fa fb : Sg → Hm → Res D} (ha : PE X a (tE X.K fa)) (hb : PE X b (tE X.K fb)) (hs : PlainIx b) :
    PE X (.Subscript a b pos) (tE X.K fun σ h => (fa σ h).bind fun x h1 => (fb σ h1).bind fun y h2 => ixD x y h2) := by
  refine PE.w (pe_ix ixR_any ha hb hs) fun σV H Q ⟨σ, h, ρ, s, q⟩ => ?_
  refine tE_of s q fun d h1 v H1 ρ1 s1 k1 r1 q => ?_
  refine tE_of s1 q fun d2 h2 v2 H2 ρ2 s2 k2 r2 q => ?_
  exact ⟨h2, ρ2, d, d2, s2.hp, r1.mono k2, r2, Res.wp_mono q fun r h3 q v3 H3 ρ3 hr3 k3 rr => q v3 H3 ρ3 (s2.of hr3 k3) ((k1.trans k2).trans k3) rr⟩
theorem pe_negD {a : Expr} {fa : Sg → Hm → Res D} (ha : PE X a (tE X.K fa)) : PE X (.UnaryOp .USub a pos) (tE X.K fun σ h => (fa σ h).bind fun x h1 => match x with
    | .int i => .ok (.int (-i)) h1
    | _ => .stuck) := by
  refine PE.w (pe_un un_neg ha) fun σV H Q ⟨σ, h, ρ, s, q⟩ => ?_
  refine tE_of s q fun d h1 v H1 ρ1 s1 k1 r1 q => ?_
  cases d with
  | int i => exact ⟨i, rI_int r1, q _ _ _ s1 k1 (.int _)⟩
  | _ => exact False.elim q

/-! ### comparisons -/
theorem c_cmp {a b : Expr} {fa fb : Sg → Hm → Res D} {o : Cm} {Q : Bool → Hp → Prop} {σV : L2.St} {H : Hp}
    (q : tT X.K (fun σ h => (fa σ h).bind fun x h1 => (fb σ h1).bind fun y h2 => cmpD o x y h2) σV H Q) : tOp (DRc X.K (cmpD o)) (tE X.K fa) (tE X.K fb) σV H (fun x H' => ∃ k, x = .bl k ∧ Q k H') := by
  obtain ⟨σ, h, ρ, s, q⟩ := q
  refine tE_of s q fun d h1 v H1 ρ1 s1 k1 r1 q => ?_
  refine tE_of s1 q fun d2 h2 v2 H2 ρ2 s2 k2 r2 q => ?_
  exact ⟨h2, ρ2, d, d2, s2.hp, r1.mono k2, r2, Res.wp_mono q fun r h3 q H3 ρ3 hr3 k3 => ⟨r, rfl, q H3 ρ3 (s2.of hr3 k3) ((k1.trans k2).trans k3)⟩⟩
theorem pt_cmpD {a b : Expr} {fa fb : Sg → Hm → Res D} {o : Cm} {po : CmpOp} (hu : X.A.units + 64 < cLine) (e : cmB o po = true) (hm : behindInMarks po b = false) (ha : PE X a (tE X.K fa)) (hb : PE X b (tE X.K fb)) :
    PT X (.Compare a [po] [b] pos) (tT X.K fun σ h => (fa σ h).bind fun x h1 => (fb σ h1).bind fun y h2 => cmpD o x y h2) :=
  PT.w (pt_cmpR (cmR_of hu o po e) ha hb hm) fun σV H Q q => c_cmp (a := a) (b := b) q
theorem pe_cmpD {a b : Expr} {fa fb : Sg → Hm → Res D} {o : Cm} {po : CmpOp} (hu : X.A.units + 64 < cLine) (e : cmB o po = true) (hm : behindInMarks po b = false) (ha : PE X a (tE X.K fa)) (hb : PE X b (tE X.K fb)) :
    PE X (.Compare a [po] [b] pos) (tE X.K fun σ h => (fa σ h).bind fun x h1 => (fb σ h1).bind fun y h2 => (cmpD o x y h2).bind fun c h3 => .ok (.bl c) h3) := by
  refine PE.w (pe_cmpR (cmR_of hu o po e) ha hb hm) fun σV H Q ⟨σ, h, ρ, s, q⟩ => ?_
  refine tE_of s q fun d h1 v H1 ρ1 s1 k1 r1 q => ?_
  refine tE_of s1 q fun d2 h2 v2 H2 ρ2 s2 k2 r2 q => ?_
  exact ⟨h2, ρ2, d, d2, s2.hp, r1.mono k2, r2, Res.wp_mono (Res.wp_bind q) fun r h3 q H3 ρ3 hr3 k3 => q _ _ _ (s2.of hr3 k3) ((k1.trans k2).trans k3) (.bl _)⟩
theorem pt_chainD {a b c : Expr} {fa fb fc : Sg → Hm → Res D} {o1 o2 : Cm} {p1 p2 : CmpOp} (hu : X.A.units + 64 < cLine) (e1 : cmB o1 p1 = true) (e2 : cmB o2 p2 = true) (hm : behindInMarks p2 c = false) (ha : PE X a (tE X.K fa)) (hb : PE X b (tE X.K fb)) (hc : PE X c (tE X.K fc)) :
    PT X (.Compare a [p1, p2] [b, c] pos) (tT X.K fun σ h => (fa σ h).bind fun x h1 => (fb σ h1).bind fun y h2 => (cmpD o1 x y h2).bind fun t h3 =>
    match t with
    | true => (fc σ h3).bind fun z h4 => cmpD o2 y z h4
    | false => .ok false h3) := by
  refine PT.w (pt_chain (cmR_of hu o1 p1 e1) (cmR_of hu o2 p2 e2) ha hb hc hm) fun σV H Q ⟨σ, h, ρ, s, q⟩ => ?_
  refine tE_of s q fun d h1 v H1 ρ1 s1 k1 r1 q => ?_
  refine tE_of s1 q fun d2 h2 v2 H2 ρ2 s2 k2 r2 q => ?_
  refine ⟨h2, ρ2, d, d2, s2.hp, r1.mono k2, r2, Res.wp_mono (Res.wp_bind q) fun r h3 q H3 ρ3 hr3 k3 => ⟨r, rfl, ?_⟩⟩
  have s3 := s2.of hr3 k3
  cases r with
  | false => exact ⟨false, rfl, q _ _ s3 ((k1.trans k2).trans k3)⟩
  | true =>
    refine tE_of s3 q fun d4 h4 v4 H4 ρ4 s4 k4 r4 q => ?_
    exact ⟨h4, ρ4, d2, d4, s4.hp, r2.mono (k3.trans k4), r4, Res.wp_mono q fun u h5 q H5 ρ5 hr5 k5 => ⟨u, rfl, q _ _ (s4.of hr5 k5) ((((k1.trans k2).trans k3).trans k4).trans k5)⟩⟩
theorem pe_chainD {a b c : Expr} {fa fb fc : Sg → Hm → Res D} {o1 o2 : Cm} {p1 p2 : CmpOp} (hu : X.A.units + 64 < cLine) (e1 : cmB o1 p1 = true) (e2 : cmB o2 p2 = true) (hm : behindInMarks p2 c = false) (ha : PE X a (tE X.K fa)) (hb : PE X b (tE X.K fb)) (hc : PE X c (tE X.K fc)) :
    PE X (.Compare a [p1, p2] [b, c] pos) (tE X.K fun σ h => (fa σ h).bind fun x h1 => (fb σ h1).bind fun y h2 => (cmpD o1 x y h2).bind fun t h3 =>
    match t with
    | true => (fc σ h3).bind fun z h4 => (cmpD o2 y z h4).bind fun u h5 => .ok (.bl u) h5
    | false => .ok (.bl false) h3) := by
  refine PE.w (pe_chain (cmR_of hu o1 p1 e1) (cmR_of hu o2 p2 e2) ha hb hc hm) fun σV H Q ⟨σ, h, ρ, s, q⟩ => ?_
  refine tE_of s q fun d h1 v H1 ρ1 s1 k1 r1 q => ?_
  refine tE_of s1 q fun d2 h2 v2 H2 ρ2 s2 k2 r2 q => ?_
  refine ⟨h2, ρ2, d, d2, s2.hp, r1.mono k2, r2, Res.wp_mono (Res.wp_bind q) fun r h3 q H3 ρ3 hr3 k3 => ⟨r, rfl, ?_⟩⟩
  have s3 := s2.of hr3 k3
  cases r with
  | false => exact q _ _ _ s3 ((k1.trans k2).trans k3) (.bl _)
  | true =>
    refine tE_of s3 q fun d4 h4 v4 H4 ρ4 s4 k4 r4 q => ?_
    exact ⟨h4, ρ4, d2, d4, s4.hp, r2.mono (k3.trans k4), r4, Res.wp_mono (Res.wp_bind q) fun u h5 q H5 ρ5 hr5 k5 => q _ _ _ (s4.of hr5 k5) ((((k1.trans k2).trans k3).trans k4).trans k5) (.bl _)⟩
theorem isNon_rel {K : PySem.W.Frag} {H : Hp} {ρ : List Addr} {M : Addr → Prop} {d : D} {v : V} (r : RD K H ρ M d v) : decide (v = .non) = isNonD d := by
  cases r <;> rfl
theorem op_isNotN : OpR X (compareOp .IsNot) (fun x y H Q => y = .non ∧ Q (.bl (!decide (x = .non))) H) := by
  intro pins s σ H x y v u Q I rx ry h
  obtain ⟨rfl, q⟩ := h
  cases ry
  exact isnot_none_gen ⟨.bl _, H, I, by rw [rx.none_iff]; rfl, q⟩
theorem pt_isND {a : Expr} {j p2} {fa : Sg → Hm → Res D} (ha : PE X a (tE X.K fa)) : PT X (.Compare a [.Is] [.Constant .none j p2] pos) (tT X.K fun σ h => (fa σ h).bind fun x h1 => .ok (isNonD x) h1) := by
  refine PT.w (pt_cmpR op_isN ha pe_non (nomark _)) fun σV H Q ⟨σ, h, ρ, s, q⟩ => ?_
  refine tE_of s q fun d h1 v H1 ρ1 s1 k1 r1 q => ?_
  exact ⟨rfl, _, rfl, by rw [isNon_rel r1]; exact q _ _ s1 k1⟩
theorem pe_isND {a : Expr} {j p2} {fa : Sg → Hm → Res D} (ha : PE X a (tE X.K fa)) : PE X (.Compare a [.Is] [.Constant .none j p2] pos) (tE X.K fun σ h => (fa σ h).bind fun x h1 => .ok (.bl (isNonD x)) h1) := by
  refine PE.w (pe_cmpR op_isN ha pe_non (nomark _)) fun σV H Q ⟨σ, h, ρ, s, q⟩ => ?_
  refine tE_of s q fun d h1 v H1 ρ1 s1 k1 r1 q => ?_
  exact ⟨rfl, by rw [isNon_rel r1]; exact q _ _ _ s1 k1 (.bl _)⟩
theorem pt_notND {a : Expr} {j p2} {fa : Sg → Hm → Res D} (ha : PE X a (tE X.K fa)) : PT X (.Compare a [.IsNot] [.Constant .none j p2] pos) (tT X.K fun σ h => (fa σ h).bind fun x h1 => .ok (!isNonD x) h1) := by
  refine PT.w (pt_cmpR op_isNotN ha pe_non (nomark _)) fun σV H Q ⟨σ, h, ρ, s, q⟩ => ?_
  refine tE_of s q fun d h1 v H1 ρ1 s1 k1 r1 q => ?_
  exact ⟨rfl, _, rfl, by rw [isNon_rel r1]; exact q _ _ s1 k1⟩
theorem pe_notND {a : Expr} {j p2} {fa : Sg → Hm → Res D} (ha : PE X a (tE X.K fa)) : PE X (.Compare a [.IsNot] [.Constant .none j p2] pos) (tE X.K fun σ h => (fa σ h).bind fun x h1 => .ok (.bl (!isNonD x)) h1) := by
  refine PE.w (pe_cmpR op_isNotN ha pe_non (nomark _)) fun σV H Q ⟨σ, h, ρ, s, q⟩ => ?_
  refine tE_of s q fun d h1 v H1 ρ1 s1 k1 r1 q => ?_
  exact ⟨rfl, by rw [isNon_rel r1]; exact q _ _ _ s1 k1 (.bl _)⟩

theorem pt_isBD {a : Expr} {b : Bool} {j p2} {fa : Sg → Hm → Res D} (ha : PE X a (tE X.K fa)) : PT X (.Compare a [.Is] [.Constant (.bool b) j p2] pos) (tT X.K fun σ h => (fa σ h).bind fun x h1 => match x with
    | .bl c => .ok (false ^^ decide (c = b)) h1
    | _ => .stuck) := by
  refine PT.w (pt_cmpR op_isBl ha pe_bl (nomark _)) fun σV H Q ⟨σ, h, ρ, s, q⟩ => ?_
  refine tE_of s q fun d h1 v H1 ρ1 s1 k1 r1 q => ?_
  cases d with
  | bl c => exact ⟨c, b, rI_bl r1, rfl, _, rfl, by have z := q _ _ s1 k1; rw [Bool.false_xor] at z; exact z⟩
  | _ => exact False.elim q
theorem pe_isBD {a : Expr} {b : Bool} {j p2} {fa : Sg → Hm → Res D} (ha : PE X a (tE X.K fa)) : PE X (.Compare a [.Is] [.Constant (.bool b) j p2] pos) (tE X.K fun σ h => (fa σ h).bind fun x h1 => match x with
    | .bl c => .ok (.bl (false ^^ decide (c = b))) h1
    | _ => .stuck) := by
  refine PE.w (pe_cmpR op_isBl ha pe_bl (nomark _)) fun σV H Q ⟨σ, h, ρ, s, q⟩ => ?_
  refine tE_of s q fun d h1 v H1 ρ1 s1 k1 r1 q => ?_
  cases d with
  | bl c => exact ⟨c, b, rI_bl r1, rfl, q _ _ _ s1 k1 (by rw [Bool.false_xor]; exact .bl _)⟩
  | _ => exact False.elim q
theorem pt_notBD {a : Expr} {b : Bool} {j p2} {fa : Sg → Hm → Res D} (ha : PE X a (tE X.K fa)) : PT X (.Compare a [.IsNot] [.Constant (.bool b) j p2] pos) (tT X.K fun σ h => (fa σ h).bind fun x h1 => match x with
    | .bl c => .ok (true ^^ decide (c = b)) h1
    | _ => .stuck) := by
  refine PT.w (pt_cmpR op_notBl ha pe_bl (nomark _)) fun σV H Q ⟨σ, h, ρ, s, q⟩ => ?_
  refine tE_of s q fun d h1 v H1 ρ1 s1 k1 r1 q => ?_
  cases d with
  | bl c => exact ⟨c, b, rI_bl r1, rfl, _, by rw [Bool.true_xor], q _ _ s1 k1⟩
  | _ => exact False.elim q
theorem pe_notBD {a : Expr} {b : Bool} {j p2} {fa : Sg → Hm → Res D} (ha : PE X a (tE X.K fa)) : PE X (.Compare a [.IsNot] [.Constant (.bool b) j p2] pos) (tE X.K fun σ h => (fa σ h).bind fun x h1 => match x with
    | .bl c => .ok (.bl (true ^^ decide (c = b))) h1
    | _ => .stuck) := by
  refine PE.w (pe_cmpR op_notBl ha pe_bl (nomark _)) fun σV H Q ⟨σ, h, ρ, s, q⟩ => ?_
  refine tE_of s q fun d h1 v H1 ρ1 s1 k1 r1 q => ?_
  cases d with
  | bl c => exact ⟨c, b, rI_bl r1, rfl, q _ _ _ s1 k1 (by rw [Bool.true_xor]; exact .bl _)⟩
  | _ => exact False.elim q

/-! ### and, or, not -/
theorem pe_andD {a b : Expr} {rest : List Expr} {fa fb : Sg → Hm → Res D} (ha : PE X a (tE X.K fa)) (hb : PE X (.BoolOp .And (b :: rest) pos) (tE X.K fb)) : PE X (.BoolOp .And (a :: b :: rest) pos) (tE X.K fun σ h => (fa σ h).bind fun x h1 => match x with
    | .bl true => fb σ h1
    | .bl false => .ok (.bl false) h1
    | _ => .stuck) := by
  refine PE.w (pe_and ha hb) fun σV H Q ⟨σ, h, ρ, s, q⟩ => ?_
  refine tE_of s q fun d h1 v H1 ρ1 s1 k1 r1 q => ?_
  cases d with
  | bl c =>
    refine ⟨c, rI_bl r1, ?_⟩
    cases c with
    | true => exact iteT ⟨σ, h1, ρ1, s1, Res.wp_mono q fun r h2 q v H2 ρ2 s2 k2 r2 => q v H2 ρ2 s2 (k1.trans k2) r2⟩
    | false => exact iteF (q _ _ _ s1 k1 (.bl _))
  | _ => exact False.elim q
theorem pe_orD {a b : Expr} {rest : List Expr} {fa fb : Sg → Hm → Res D} (ha : PE X a (tE X.K fa)) (hb : PE X (.BoolOp .Or (b :: rest) pos) (tE X.K fb)) : PE X (.BoolOp .Or (a :: b :: rest) pos) (tE X.K fun σ h => (fa σ h).bind fun x h1 => match x with
    | .bl true => .ok (.bl true) h1
    | .bl false => fb σ h1
    | _ => .stuck) := by
  refine PE.w (pe_or ha hb) fun σV H Q ⟨σ, h, ρ, s, q⟩ => ?_
  refine tE_of s q fun d h1 v H1 ρ1 s1 k1 r1 q => ?_
  cases d with
  | bl c =>
    refine ⟨c, rI_bl r1, ?_⟩
    cases c with
    | false => exact iteF ⟨σ, h1, ρ1, s1, Res.wp_mono q fun r h2 q v H2 ρ2 s2 k2 r2 => q v H2 ρ2 s2 (k1.trans k2) r2⟩
    | true => exact iteT (q _ _ _ s1 k1 (.bl _))
  | _ => exact False.elim q
theorem pe_notD {a : Expr} {fa : Sg → Hm → Res D} (ha : PE X a (tE X.K fa)) : PE X (.UnaryOp .Not a pos) (tE X.K fun σ h => (fa σ h).bind fun x h1 => match x with
    | .bl c => .ok (.bl (!c)) h1
    | _ => .stuck) := by
  refine PE.w (pe_not ha) fun σV H Q ⟨σ, h, ρ, s, q⟩ => ?_
  refine tE_of s q fun d h1 v H1 ρ1 s1 k1 r1 q => ?_
  cases d with
  | bl c => exact ⟨c, rI_bl r1, q _ _ _ s1 k1 (.bl _)⟩
  | _ => exact False.elim q
theorem pw_andD {a b : Expr} {rest : List Expr} {fa fb : Sg → Hm → Res Bool} (ha : PT X a (tT X.K fa)) (hb : PW X (.BoolOp .And (b :: rest) pos) (tT X.K fb)) : PW X (.BoolOp .And (a :: b :: rest) pos) (tT X.K fun σ h => (fa σ h).bind fun t h1 => match t with
    | true => fb σ h1
    | false => .ok false h1) := by
  refine PW.w (pw_and ha hb) fun σV H Q ⟨σ, h, ρ, s, q⟩ => ?_
  refine tT_of s q fun c h1 H1 ρ1 s1 k1 q => ?_
  cases c with
  | true => exact iteT ⟨σ, h1, ρ1, s1, Res.wp_mono q fun r h2 q H2 ρ2 s2 k2 => q H2 ρ2 s2 (k1.trans k2)⟩
  | false => exact iteF (q _ _ s1 k1)
theorem pw_orD {a b : Expr} {rest : List Expr} {fa fb : Sg → Hm → Res Bool} (ha : PT X a (tT X.K fa)) (hb : PW X (.BoolOp .Or (b :: rest) pos) (tT X.K fb)) : PW X (.BoolOp .Or (a :: b :: rest) pos) (tT X.K fun σ h => (fa σ h).bind fun t h1 => match t with
    | true => .ok true h1
    | false => fb σ h1) := by
  refine PW.w (pw_or ha hb) fun σV H Q ⟨σ, h, ρ, s, q⟩ => ?_
  refine tT_of s q fun c h1 H1 ρ1 s1 k1 q => ?_
  cases c with
  | false => exact iteF ⟨σ, h1, ρ1, s1, Res.wp_mono q fun r h2 q H2 ρ2 s2 k2 => q H2 ρ2 s2 (k1.trans k2)⟩
  | true => exact iteT (q _ _ s1 k1)
theorem pt_notD {a : Expr} {fa : Sg → Hm → Res Bool} (ha : PT X a (tT X.K fa)) : PT X (.UnaryOp .Not a pos) (tT X.K fun σ h => (fa σ h).bind fun t h1 => .ok (!t) h1) := by
  refine PT.w (pt_not ha) fun σV H Q ⟨σ, h, ρ, s, q⟩ => ?_
  exact tT_of s q fun c h1 H1 ρ1 s1 k1 q => q _ _ s1 k1
theorem pe_ifD {c a b : Expr} {fc : Sg → Hm → Res Bool} {fa fb : Sg → Hm → Res D} (hc : PT X c (tT X.K fc)) (ha : PE X a (tE X.K fa)) (hb : PE X b (tE X.K fb)) : PE X (.IfExp c a b pos) (tE X.K fun σ h => (fc σ h).bind fun t h1 => match t with
    | true => fa σ h1
    | false => fb σ h1) := by
  refine PE.w (pe_ifExp hc ha hb) fun σV H Q ⟨σ, h, ρ, s, q⟩ => ?_
  refine tT_of s q fun c h1 H1 ρ1 s1 k1 q => ?_
  cases c with
  | true => exact iteT ⟨σ, h1, ρ1, s1, Res.wp_mono q fun r h2 q v H2 ρ2 s2 k2 r2 => q v H2 ρ2 s2 (k1.trans k2) r2⟩
  | false => exact iteF ⟨σ, h1, ρ1, s1, Res.wp_mono q fun r h2 q v H2 ρ2 s2 k2 r2 => q v H2 ρ2 s2 (k1.trans k2) r2⟩
/-- a value as a test -/
def plainT : Expr → Bool
  | .UnaryOp .Not _ _ => false
  | .BoolOp .. => false
  | .IfExp .. => false
  | .Compare .. => false
  | _ => true
theorem pt_valD {a : Expr} {fa : Sg → Hm → Res D} (ha : PE X a (tE X.K fa)) (hp : plainT a = true) : PT X a (tT X.K fun σ h => (fa σ h).bind trD) := by
  refine PT.w (pt_val ha fun whole => ?_) fun σV H Q ⟨σ, h, ρ, s, q⟩ => ?_
  · cases a <;> first | exact Bool.noConfusion hp | rfl | skip
    rename_i op _ _
    cases op <;> first | exact Bool.noConfusion hp | rfl
  · refine tE_of s q fun d h1 v H1 ρ1 s1 k1 r1 q => ?_
    cases d with
    | bl c => exact ⟨c, rI_bl r1, q _ _ s1 k1⟩
    | _ => exact False.elim q

/-! ### displays -/
theorem pe_tupD {es : List Expr} {x1} {f : Sg → Hm → Res (List D)} (p : PA X es (tA X.K f)) : PE X (.Tuple es x1 pos) (tE X.K fun σ h => (f σ h).bind fun ds h1 => .guard (decide (ds.length ≤ LIM)) (.ok (.tup ds) h1)) := by
  refine PE.w (pe_tupF p) fun σV H Q ⟨σ, h, ρ, s, q⟩ => ?_
  refine tA_of s q fun ds h1 vs H1 ρ1 s1 k1 r1 q => ?_
  obtain ⟨c, q⟩ := Res.wp_guard q
  exact ⟨by rw [← r1.length]; exact le_sz c, fun p o hp ho => q _ _ _ (s1.new hp) (k1.trans (Kp.new s1.hp hp)) (Rel.newT s1.hp hp ho r1)⟩
theorem pe_lstD {es : List Expr} {f : Sg → Hm → Res (List D)} (p : PA X es (tA X.K f)) : PE X (.List es pos) (tE X.K fun σ h => (f σ h).bind fun ds h1 => .guard (decide (ds.length ≤ LIM)) (.ok (.lst ds) h1)) := by
  refine PE.w (pe_lst p) fun σV H Q ⟨σ, h, ρ, s, q⟩ => ?_
  refine tA_of s q fun ds h1 vs H1 ρ1 s1 k1 r1 q => ?_
  obtain ⟨c, q⟩ := Res.wp_guard q
  exact ⟨by rw [← r1.length]; exact le_sz c, fun p hp => q _ _ _ (s1.new hp) (k1.trans (Kp.new s1.hp hp)) (Rel.newL s1.hp hp r1)⟩
theorem SR.push {K : PySem.W.Frag} {σ : Sg} {h : Hm} {ρ : List Addr} {σV : L2.St} {H : Hp} {p : Addr} {xs : List D} {vs : List V} (s : SR K σ h ρ σV H) (e : H p = none) (q : Rels K h ρ H xs vs) : SR K σ (h ++ [.lst xs]) (ρ ++ [p]) σV (upd H p (.lst vs)) :=
  s.of (s.hp.push e q) (Kp.push s.hp e)
theorem Rel.pushed {K : PySem.W.Frag} {h : Hm} {ρ : List Addr} {H : Hp} {p : Addr} {o : MO} {H' : Hp} (r : HR K h ρ H) : Rel K (h ++ [o]) (ρ ++ [p]) H' (.ref h.length) (.ref p) := .ref (by rw [← r.len]; simp)
theorem pe_lstMD {es : List Expr} {f : Sg → Hm → Res (List D)} (p : PA X es (tA X.K f)) : PE X (.List es pos) (tE X.K fun σ h => (f σ h).bind fun ds h1 => .guard (decide (ds.length ≤ LIM)) (.ok (.ref h1.length) (h1 ++ [.lst ds]))) := by
  refine PE.w (pe_lst p) fun σV H Q ⟨σ, h, ρ, s, q⟩ => ?_
  refine tA_of s q fun ds h1 vs H1 ρ1 s1 k1 r1 q => ?_
  obtain ⟨c, q⟩ := Res.wp_guard q
  exact ⟨by rw [← r1.length]; exact le_sz c, fun p hp => q _ _ _ (s1.push hp r1) (k1.trans (Kp.push s1.hp hp)) (Rel.pushed s1.hp)⟩

/-! ### built-ins -/
theorem pe_biD {b : Bi} {e : Expr} {es : List Expr} {x : Str} {p : Pos} {f : Sg → Hm → Res (List D)} (hc : X.calm = true) (hu : X.A.units + 64 < cLine) (hgd : b = .repr → X.A.guards = some []) (hx : x = biName b) (hg : Gl X x) (hm : X.mg x = none) (ha : PA X (e :: es) (tA X.K f)) (ns : noStars (e :: es) = true) :
    PE X (.Call (.Name x p) (e :: es) [] pos) (tE X.K fun σ h => (f σ h).bind fun ds h1 => biD b ds h1) := by
  have st : starEach (e :: es) X.env = (false, eval e X.env) :: starEach es X.env := star_cons (by
    unfold noStars at ns
    rw [List.all_cons, Bool.and_eq_true] at ns
    exact ns.1)
  have sn : (backTo pos (starEach es X.env)).any (·.1) = false := stars_none (by
    unfold noStars at ns ⊢
    rw [List.all_cons, Bool.and_eq_true] at ns
    exact ns.2)
  have go : PE X (.Call (.Name x p) (e :: es) [] pos) (tCB (DRs X.K (biD b)) (tA X.K f)) := by
    subst hx
    cases b
    · exact pe_callB (biR_len) hg hm (by decide +kernel) ha (by decide +kernel) (by decide +kernel) st sn
    · exact pe_callB (biR_abs) hg hm (by decide +kernel) ha (by decide +kernel) (by decide +kernel) st sn
    · exact pe_callTy (biR_int) hg hm (by decide +kernel) ha (by decide +kernel) (by decide +kernel) st sn
    · exact pe_callTy (biR_tuple) hg hm (by decide +kernel) ha (by decide +kernel) (by decide +kernel) st sn
    · exact pe_callTy (biR_list) hg hm (by decide +kernel) ha (by decide +kernel) (by decide +kernel) st sn
    · exact pe_callB (biR_all hc) hg hm (by decide +kernel) ha (by decide +kernel) (by decide +kernel) st sn
    · exact pe_callB (biR_any hc) hg hm (by decide +kernel) ha (by decide +kernel) (by decide +kernel) st sn
    · exact pe_callB (biR_sum hc) hg hm (by decide +kernel) ha (by decide +kernel) (by decide +kernel) st sn
    · exact pe_callB (biR_max2 hc) hg hm (by decide +kernel) ha (by decide +kernel) (by decide +kernel) st sn
    · exact pe_callB (biR_min2 hc) hg hm (by decide +kernel) ha (by decide +kernel) (by decide +kernel) st sn
    · exact pe_callTy (biR_str) hg hm (by decide +kernel) ha (by decide +kernel) (by decide +kernel) st sn
    · exact pe_callB (biR_sorted hu) hg hm (by decide +kernel) ha (by decide +kernel) (by decide +kernel) st sn
    · exact pe_callB (biR_repr (hgd rfl) hu) hg hm (by decide +kernel) ha (by decide +kernel) (by decide +kernel) st sn
  refine PE.w go fun σV H Q ⟨σ, h, ρ, s, q⟩ => ?_
  refine tA_of s q fun ds h1 vs H1 ρ1 s1 k1 r1 q => ?_
  exact ⟨h1, ρ1, ds, s1.hp, r1, Res.wp_mono q fun r h3 q v3 H3 ρ3 hr3 k3 rr => q v3 H3 ρ3 (s1.of hr3 k3) (k1.trans k3) rr⟩
end

/-! Mini 6: isinstance, methods, slices, calls of defs, what is walked, targets. -/

/-! ### isinstance -/
def tyNm : Ty → String
  | .int => "int" | .bool => "bool" | .str => "str" | .tuple => "tuple" | .list => "list"
def dTy : D → String
  | .non => "NoneType" | .bl _ => "bool" | .int _ => "int" | .str _ => "str" | .tup _ => "tuple" | .lst _ => "list" | .ref _ => "list" | .wtup _ => "tuple" | .dict _ _ => "dict" | .fn _ _ => "function"
theorem kit_d (t : Ty) (d : D) : kitB (dTy d) (tyNm t) = some (tyD t d) := by
  cases t <;> cases d <;> (simp only [dTy, tyNm, tyD]; decide +kernel)
section
variable {K : PySem.W.Frag} {h : Hm} {ρ : List Addr} {H : Hp}
theorem LieL.ty {M : Addr → Prop} {a : Addr} {vs : List V} (l : LieL K H M a vs) : TyX K H (.ref a) (.type "list") := by
  rcases l with ⟨l | ⟨o, l⟩, _⟩ | ⟨o, its, n, h1, h2, _⟩
  · exact .base (.lst l)
  · exact .base (.frz l)
  · exact .kList h1 h2
theorem LieT.ty {M : Addr → Prop} {a : Addr} {vs : List V} (l : LieT K H M a vs) : TyX K H (.ref a) (.type "tuple") := by
  rcases l with ⟨o, l, _⟩ | ⟨o, its, n, h1, h2, _⟩
  · exact .fTuple l
  · exact .kTuple h1 h2
theorem LieW.ty {M : Addr → Prop} {a : Addr} {vs : List V} (l : LieW K H M a vs) : TyX K H (.ref a) (.type "tuple") := by
  rcases l with ⟨l | ⟨o, l⟩, _⟩
  · exact .base (.tup l)
  · exact .fTuple l
/-- the type of a value; of a shared thing only while it is open -/
theorem Rel.ty {d : D} {v : V} (hr : HR K h ρ H) (r : Rel K h ρ H d v) (ok : openD h d = true) : TyX K H v (.type (dTy d)) := by
  cases r with
  | non => exact .base .non
  | bl b => exact .base (.bl b)
  | int b => exact .base (.int b)
  | str b => exact .base (.str b)
  | tup l _ => exact l.ty
  | lst l _ => exact l.ty
  | wtup l _ => exact l.ty
  | @ref n a e =>
    have k : (listOf? h n).isSome = true := ok
    cases q : listOf? h n with
    | none => rw [q] at k; cases k
    | some xs =>
      obtain ⟨vs, h1, _⟩ := hr.ref e q
      exact .base (.lst h1)
  | dict _ _ => exact Bool.noConfusion ok
  | fn _ => exact Bool.noConfusion ok
end
theorem openD_ok {h : Hm} {d : D} (e : openD h d = true) : openD h d = true := e
section
variable {X : Cx} {pos : Pos}
theorem ty_boot (t : Ty) : bootBuiltins (tyNm t) = some (.type (tyNm t)) := by cases t <;> decide +kernel
theorem ty_ok (t : Ty) : (tyNm t : Str) ≠ "__name__" ∧ ((tyNm t : Str) == ("__debug__" : Str)) = false := by cases t <;> exact ⟨by decide +kernel, by decide +kernel⟩
theorem pe_ty {t : Ty} {x : Str} (hx : x = tyNm t) (hg : Gl X x) (hm : X.mg x = none) : PE X (.Name x pos) (tC (.ty (tyNm t))) := by
  subst hx
  exact pe_bltn hg hm (ty_boot t) rfl (ty_ok t).1 (ty_ok t).2
theorem pe_isiD {a : Expr} {t : Ty} {x : Str} {p p2 : Pos} {f : Sg → Hm → Res D} (hx : x = tyNm t) (hg : Gl X "isinstance") (hm : X.mg "isinstance" = none) (hgT : Gl X x) (hmT : X.mg x = none) (ha : PE X a (tE X.K f)) (ns : notStar a = true) :
    PE X (.Call (.Name "isinstance" p) [a, .Name x p2] [] pos) (tE X.K fun σ h => (f σ h).bind fun x h1 => .guard (openD h1 x) (.ok (.bl (tyD t x)) h1)) := by
  have pa : PA X [a, .Name x p2] (tCons (tE X.K f) (tCons (tC (.ty (tyNm t))) tNil)) := pa_cons ha (pa_cons (pe_ty hx hgT hmT) pa_nil (by rfl)) (star_cons ns)
  refine PE.w (pe_callB call_isi hg hm (by decide +kernel) pa (by decide +kernel) (by decide +kernel) (star_cons ns) (by rfl)) fun σV H Q ⟨σ, h, ρ, s, q⟩ => ?_
  refine tE_of s q fun d h1 v H1 ρ1 s1 k1 r1 q => ?_
  obtain ⟨c, q⟩ := Res.wp_guard q
  exact ⟨v, .ty (tyNm t), .type (dTy d), .type (tyNm t), tyD t d, rfl, .ty _, r1.ty s1.hp (openD_ok c), kit_ty (kit_d t d), q _ _ _ s1 k1 (.bl _)⟩
/-- the names of a tuple of classes -/
theorem pa_tys : ∀ {ts : List Ty} {es : List Expr}, Paired (fun (t : Ty) (e : Expr) => ∃ p, e = .Name (tyNm t) p ∧ Gl X (tyNm t) ∧ X.mg (tyNm t) = none) ts es → PA X es fun _ H Q => Q (ts.map fun t => V.ty (tyNm t)) H
  | _, _, .nil => pa_nil
  | t :: ts, _, .cons ⟨p, e, hg, hm⟩ r => by
    subst e
    exact pa_cons (pe_ty rfl hg hm) (pa_tys r) (by rfl)
theorem cls_tys : ∀ ts : List Ty, Paired ClsV (ts.map fun t => V.ty (tyNm t)) (ts.map fun t => Value.type (tyNm t))
  | [] => .nil
  | t :: ts => .cons (.ty _) (cls_tys ts)
theorem kit_any {K : PySem.W.Frag} (d : D) : ∀ ts : List Ty, PySem.W.kitAny K (.type (dTy d)) (ts.map fun t => Value.type (tyNm t)) = some (ts.any fun t => tyD t d)
  | [] => rfl
  | t :: ts => by
    refine kitAny_cons (kit_ty (kit_d t d)) (fun e => ?_) (fun e => ?_)
    · rw [kit_any d ts, List.any_cons, e, Bool.false_or]
    · rw [List.any_cons, e, Bool.true_or]
theorem pe_isiTD {a : Expr} {ts : List Ty} {es : List Expr} {k : Nat} {p p2 : Pos} {f : Sg → Hm → Res D} (hes : Paired (fun (t : Ty) (e : Expr) => ∃ p, e = .Name (tyNm t) p ∧ Gl X (tyNm t) ∧ X.mg (tyNm t) = none) ts es) (hz : ts.length ≤ sizeLine)
    (hg : Gl X "isinstance") (hm : X.mg "isinstance" = none) (ha : PE X a (tE X.K f)) (ns : notStar a = true) :
    PE X (.Call (.Name "isinstance" p) [a, .Tuple es k p2] [] pos) (tE X.K fun σ h => (f σ h).bind fun x h1 => .guard (openD h1 x) (.ok (.bl (ts.any fun t => tyD t x)) h1)) := by
  have pa : PA X [a, .Tuple es k p2] (tCons (tE X.K f) (tCons (tTup fun _ H Q => Q (ts.map fun t => V.ty (tyNm t)) H) tNil)) := pa_cons ha (pa_cons (pe_tup (pa_tys hes)) pa_nil (by rfl)) (star_cons ns)
  refine PE.w (pe_callB call_isiT hg hm (by decide +kernel) pa (by decide +kernel) (by decide +kernel) (star_cons ns) (by rfl)) fun σV H Q ⟨σ, h, ρ, s, q⟩ => ?_
  refine tE_of s q fun d h1 v H1 ρ1 s1 k1 r1 q => ?_
  obtain ⟨c, q⟩ := Res.wp_guard q
  refine ⟨by rw [List.length_map]; exact hz, fun p hp => ?_⟩
  have k2 : Kp h1 ρ1 H1 h1 ρ1 (upd H1 p (.tup (ts.map fun t => V.ty (tyNm t)))) := Kp.new s1.hp hp
  have s2 := s1.new (o := .tup (ts.map fun t => V.ty (tyNm t))) hp
  exact ⟨v, p, _, .type (dTy d), _, _, rfl, upd_same, cls_tys ts, Rel.ty s2.hp (r1.mono k2) (openD_ok c), kit_any d ts, q _ _ _ s2 (k1.trans k2) (.bl _)⟩

/-! ### methods -/
theorem mt_appendD : MtR X "list.append" (fun x xs H Q => ∃ h ρ d ds, HR X.K h ρ H ∧ Rel X.K h ρ H d x ∧ Rels X.K h ρ H ds xs ∧ (mtD .append d ds h).wp fun r h' => ∀ v H' ρ', HR X.K h' ρ' H' → Kp h ρ H h' ρ' H' → Rel X.K h' ρ' H' r v → Q v H') := by
  intro pins s σ H x xs v us Q I rx rxs hq
  obtain ⟨h, ρ, d, ds, hr, rd, rs, q⟩ := hq
  match d, ds, rd, rs, q with
  | .ref n, [y], rd, rs, q =>
    have q : (match listOf? h n with
      | some xs => Res.guard (decide (xs.length < LIM)) (Res.ok D.non (h.set n (.lst (xs ++ [y]))))
      | none => Res.stuck).wp _ := q
    cases e : listOf? h n with
    | none => rw [e] at q; exact False.elim q
    | some ys =>
      rw [e] at q
      obtain ⟨c, q⟩ := Res.wp_guard q
      obtain ⟨w, rfl, rw'⟩ := rels1 rs
      cases rd with
      | @ref _ a ea =>
        obtain ⟨vs, h1, h2⟩ := hr.ref ea e
        have eh : h[n]? = some (.lst ys) := by
          unfold listOf? at e
          split at e
          · rename_i z q2
            cases e
            exact q2
          · cases e
        refine mt_append pins s σ H _ _ v us Q I rx rxs ⟨a, vs, w, rfl, rfl, h1, by rw [← h2.length]; exact lt_sz c, ?_⟩
        exact q _ _ _ (hr.write ea eh (h2.append (.cons rw' .nil))) (Kp.write ea eh) .non
  | .non, _, _, _, q => exact False.elim q
  | .bl _, _, _, _, q => exact False.elim q
  | .int _, _, _, _, q => exact False.elim q
  | .str _, _, _, _, q => exact False.elim q
  | .tup _, _, _, _, q => exact False.elim q
  | .lst _, _, _, _, q => exact False.elim q
  | .wtup _, _, _, _, q => exact False.elim q
  | .dict _ _, _, _, _, q => exact False.elim q
  | .fn _ _, _, _, _, q => exact False.elim q
  | .ref _, [], _, _, q => exact False.elim q
  | .ref _, _ :: _ :: _, _, _, q => exact False.elim q
theorem listOf_eq {h : Hm} {n : Nat} {xs : List D} (e : listOf? h n = some xs) : h[n]? = some (.lst xs) := by
  unfold listOf? at e
  split at e
  · rename_i z q2
    cases e
    exact q2
  · cases e
theorem RDs.erase {K : PySem.W.Frag} {h : Hm} {ρ : List Addr} {H : Hp} : ∀ {ds : List D} {vs : List V} (k : Nat), Rels K h ρ H ds vs → Rels K h ρ H (ds.eraseIdx k) (vs.eraseIdx k)
  | [], _, k, r => by cases r; exact .nil
  | d :: ds, _, 0, r => by cases r with | cons a b => exact b
  | d :: ds, _, k + 1, r => by cases r with | cons a b => exact .cons a (RDs.erase k b)
theorem mt_popD : MtR X "list.pop" (fun x xs H Q => ∃ h ρ d ds, HR X.K h ρ H ∧ Rel X.K h ρ H d x ∧ Rels X.K h ρ H ds xs ∧ (mtD .popAt d ds h).wp fun r h' => ∀ v H' ρ', HR X.K h' ρ' H' → Kp h ρ H h' ρ' H' → Rel X.K h' ρ' H' r v → Q v H') := by
  intro pins s σ H x xs v us Q I rx rxs hq
  obtain ⟨h, ρ, d, ds, hr, rd, rs, q⟩ := hq
  match d, ds, rd, rs, q with
  | .ref n, [.int i], rd, rs, q =>
    have q : (match listOf? h n with
      | some xs => match (if 0 ≤ i ∧ i < xs.length then xs[i.toNat]? else none) with
        | some y => Res.ok y (h.set n (.lst (xs.eraseIdx i.toNat)))
        | none => Res.stuck
      | none => Res.stuck).wp _ := q
    cases e : listOf? h n with
    | none => rw [e] at q; exact False.elim q
    | some ys =>
      rw [e] at q
      dsimp only at q
      by_cases hi : 0 ≤ i ∧ i < ys.length
      · rw [if_pos hi] at q
        cases e2 : ys[i.toNat]? with
        | none => rw [e2] at q; exact False.elim q
        | some y =>
          rw [e2] at q
          obtain ⟨w, rfl, rw'⟩ := rels1 rs
          have ew := rI_int rw'
          subst ew
          cases rd with
          | @ref _ a ea =>
            obtain ⟨vs, h1, h2⟩ := hr.ref ea e
            have eh := listOf_eq e
            obtain ⟨z, hz, rz⟩ := h2.get e2
            have hl := (I.lstM h1).1
            have hlen := h2.length
            rw [sz] at hl
            refine mt_popAt pins s σ H _ _ v us Q I rx rxs ⟨a, vs, i, i.toNat, z, rfl, rfl, h1, by omega, by omega, ?_, hz, ?_⟩
            · unfold seqIndex?
              have n1 : ¬ i < 0 := by omega
              have n2 : (decide (0 ≤ i) && decide (i < (vs.length : Int))) = true := by simp; omega
              simp only [if_neg n1, n2, if_true]
            · exact q _ _ _ (hr.write ea eh (RDs.erase _ h2)) (Kp.write ea eh) (rz.mono (Kp.write ea eh))
      · rw [if_neg hi] at q
        exact False.elim q
  | .non, _, _, _, q => exact False.elim q
  | .bl _, _, _, _, q => exact False.elim q
  | .int _, _, _, _, q => exact False.elim q
  | .str _, _, _, _, q => exact False.elim q
  | .tup _, _, _, _, q => exact False.elim q
  | .lst _, _, _, _, q => exact False.elim q
  | .wtup _, _, _, _, q => exact False.elim q
  | .dict _ _, _, _, _, q => exact False.elim q
  | .fn _ _, _, _, _, q => exact False.elim q
  | .ref _, [], _, _, q => exact False.elim q
  | .ref _, [.non], _, _, q => exact False.elim q
  | .ref _, [.bl _], _, _, q => exact False.elim q
  | .ref _, [.str _], _, _, q => exact False.elim q
  | .ref _, [.tup _], _, _, q => exact False.elim q
  | .ref _, [.lst _], _, _, q => exact False.elim q
  | .ref _, [.ref _], _, _, q => exact False.elim q
  | .ref _, [.wtup _], _, _, q => exact False.elim q
  | .ref _, [.dict _ _], _, _, q => exact False.elim q
  | .ref _, [.fn _ _], _, _, q => exact False.elim q
  | .ref _, a :: _ :: _, _, _, q => cases a <;> exact False.elim q
end

/-! Mini 7: methods in place, slices, calls of defs, what is walked, targets. -/
def notCall : Expr → Bool
  | .Call .. => false
  | _ => true
theorem base_plain' {o : Expr} {name : Str} {env : Env} (h : notCall o = true) : attributeBase o name env (eval o env) = eval o env := by
  cases o <;> first | exact Bool.noConfusion h | rfl
section
variable {X : Cx} {pos : Pos}
/-- the receiver: a list, or a tuple that is known to the object -/
def rcv (K : PySem.W.Frag) (T : String) (x : V) (H : Hp) : Prop := ∃ p, x = .ref p ∧ ((T = "list" ∧ ∃ xs, SqL K H p xs) ∨ (T = "tuple" ∧ ∃ M xs, LieT K H M p xs))
theorem rcv_is {pins : List (Addr × Obj)} {σ : L2.St} {H : Hp} {s : Shared} {T : String} {x : V} {v : Value} (I : Inv X pins σ H s) (r : RelV x v) (ty : rcv X.K T x H) :
    s.TypeIs v T ∧ ∀ a, v = .ref a → ∃ ob, s.heap.get? a = some ob ∧ ob.dict = none := by
  obtain ⟨p, rfl, ty⟩ := ty
  cases r
  rcases ty with ⟨rfl, xs, hq⟩ | ⟨rfl, M, xs, hq⟩
  · obtain ⟨its, _, pl, _⟩ := I.list hq
    refine ⟨pl.isList.typeIs, fun a e => ?_⟩
    cases e
    obtain ⟨o, n, e, c, hd, _⟩ := pl
    exact ⟨o, e, hd⟩
  · rcases hq with ⟨o, hq, hd, _⟩ | ⟨o, its, n, hk, hc, hd, _⟩
    · obtain ⟨e, _, its, _, o', e2, hc, _⟩ := I.hok p _ hq
      rw [e] at e2
      cases e2
      refine ⟨⟨o, e, hc⟩, fun a e3 => ?_⟩
      cases e3
      exact ⟨o, e, hd⟩
    · refine ⟨⟨o, I.kIn p o hk, hc⟩, fun a e => ?_⟩
      cases e
      exact ⟨o, I.kIn _ o hk, hd⟩
/-- a built-in's method, with arguments -/
theorem pe_mtG {T id : String} {name : Str} {o e : Expr} {es : List Expr} {apos cpos : Pos} {m : Mt} {fo : Sg → Hm → Res D} {fs : Sg → Hm → Res (List D)}
    (pa : PlainAttrs T) (slot : Slot T name id) (hty : typeOf (.builtin id) = pure (.type "method_descriptor"))
    (hm : MtR X id (fun x xs H Q => ∃ h ρ d ds, HR X.K h ρ H ∧ Rel X.K h ρ H d x ∧ Rels X.K h ρ H ds xs ∧ (mtD m d ds h).wp fun r h' => ∀ v H' ρ', HR X.K h' ρ' H' → Kp h ρ H h' ρ' H' → Rel X.K h' ρ' H' r v → Q v H'))
    (hrc : ∀ (h : Hm) (ρ : List Addr) (H : Hp) (d : D) (v : V), HR X.K h ρ H → Rel X.K h ρ H d v → rcvD m d h = true → rcv X.K T v H)
    (ho : PE X o (tE X.K fo)) (ha : PA X (e :: es) (tA X.K fs)) (ns : noStars (e :: es) = true) (hfew : (e :: es).length < 30)
    (hbase : notCall o = true) (hline : (apos.endLine == cpos.line) = true) :
    PE X (.Call (.Attribute o name apos) (e :: es) [] cpos) (tE X.K fun σ h => (fo σ h).bind fun x h1 => .guard (rcvD m x h1) ((fs σ h1).bind fun ds h2 => mtD m x ds h2)) := by
  have st : starEach (e :: es) X.env = (false, eval e X.env) :: starEach es X.env := star_cons (by
    unfold noStars at ns
    rw [List.all_cons, Bool.and_eq_true] at ns
    exact ns.1)
  have sn : (backTo cpos (starEach es X.env)).any (·.1) = false := stars_none (by
    unfold noStars at ns ⊢
    rw [List.all_cons, Bool.and_eq_true] at ns
    exact ns.2)
  refine ⟨fun pins s σ H Q I h => ?_⟩
  have hf : ((backTo cpos (starEach (e :: es) X.env)).all (fun x => !x.1) && (backToKw cpos (keywordEach [] X.env)).all (fun x => x.1.isSome)
      && decide ((e :: es).length + ([] : List Keyword).length + (if ([] : List Keyword).isEmpty then 0 else 1) < 30)) = true := by
    rw [stars_all ns]
    simp [backToKw, keywordEach] at hfew ⊢
    exact hfew
  refine wpAny_Call_method_late (base_plain' hbase) hf hline rfl ?_
  obtain ⟨σD, hD, ρ, sr, q⟩ := h
  have q0 : tE X.K fo σ H (fun x H1 => rcv X.K T x H1 ∧ tA X.K fs σ H1 fun xs H2 => ∃ h ρ d ds, HR X.K h ρ H2 ∧ Rel X.K h ρ H2 d x ∧ Rels X.K h ρ H2 ds xs ∧ (mtD m d ds h).wp fun r h' => ∀ v H' ρ', HR X.K h' ρ' H' → Kp h ρ H2 h' ρ' H' → Rel X.K h' ρ' H' r v → Q v H') := by
    refine tE_of sr q fun d h1 v H1 ρ1 s1 k1 r1 q => ?_
    obtain ⟨c, q⟩ := Res.wp_guard q
    refine ⟨hrc _ _ _ _ _ s1.hp r1 c, ?_⟩
    refine tA_of s1 q fun ds h2 vs H2 ρ2 s2 k2 r2 q => ?_
    exact ⟨h2, ρ2, d, ds, s2.hp, r1.mono k2, r2, Res.wp_mono q fun r h3 q v3 H3 ρ3 hr3 k3 rr => q v3 H3 ρ3 (s2.of hr3 k3) ((k1.trans k2).trans k3) rr⟩
  refine thn (ho.run pins s σ H _ I q0) fun v s1 ⟨x, H1, I1, r1, ty, q1⟩ => ?_
  obtain ⟨h1, h2⟩ := rcv_is I1 r1 ty
  refine ⟨T, id, pa, slot, hty, h1, h2, ?_⟩
  have hA := ha.run cpos pins s1 σ H1 _ I1 q1
  rw [st] at hA ⊢
  refine Calls.callWith_builtin (by show (false || (backTo cpos (starEach es X.env)).any (·.1)) = false; rw [sn] <;> rfl) (Calls.evalArgs_plain ?_)
  exact thn hA fun us s2 ⟨vs, H2, I2, r2, q2⟩ => hm pins s2 σ H2 x vs v us Q I2 r1 r2 q2
theorem rcv_list {h : Hm} {ρ : List Addr} {H : Hp} {n : Nat} {v : V} (hr : HR X.K h ρ H) (r : Rel X.K h ρ H (.ref n) v) (e : (listOf? h n).isSome = true) : rcv X.K "list" v H := by
  cases k : listOf? h n with
  | none => rw [k] at e; cases e
  | some xs =>
    cases r with
    | @ref _ a ea =>
      obtain ⟨vs, h1, _⟩ := hr.ref ea k
      exact ⟨a, rfl, .inl ⟨rfl, vs, SqL.of h1⟩⟩
theorem mt_indexD : MtR X "tuple.index" (fun x xs H Q => ∃ h ρ d ds, HR X.K h ρ H ∧ Rel X.K h ρ H d x ∧ Rels X.K h ρ H ds xs ∧ (mtD .index d ds h).wp fun r h' => ∀ v H' ρ', HR X.K h' ρ' H' → Kp h ρ H h' ρ' H' → Rel X.K h' ρ' H' r v → Q v H') := by
  intro pins s σ H x xs v us Q I rx rxs hq
  obtain ⟨h, ρ, d, ds, hr, rd, rs, q⟩ := hq
  match d, ds, rd, rs, q with
  | .tup ys, [.str z], rd, rs, q =>
    have q : (match (strsOf ys).bind (idxOf z) with
      | some j => Res.ok (D.int j) h
      | none => Res.stuck).wp _ := q
    cases e : (strsOf ys).bind (idxOf z) with
    | none => rw [e] at q; exact False.elim q
    | some j =>
      rw [e] at q
      cases e2 : strsOf ys with
      | none => rw [e2] at e; cases e
      | some zs =>
        rw [e2] at e
        have e : idxOf z zs = some j := e
        obtain ⟨w, rfl, rw'⟩ := rels1 rs
        cases rd with
        | @tup a _ vs l rr =>
          have hz := strs_rel e2 rr
          subst hz
          have key : ∀ (zs : List Str) (j : Nat), idxOf z zs = some j → zs[j]? = some z ∧ ∀ m, m < j → zs[m]? ≠ some z := by
            intro zs
            induction zs with
            | nil => intro j e; cases e
            | cons y ys ih =>
              intro j e
              unfold idxOf at e
              by_cases hy : y = z
              · rw [if_pos hy] at e
                cases e
                exact ⟨by simp [hy], fun m hm => absurd hm (Nat.not_lt_zero _)⟩
              · rw [if_neg hy] at e
                cases k : idxOf z ys with
                | none => rw [k] at e; cases e
                | some i =>
                  rw [k] at e
                  cases e
                  obtain ⟨a, b⟩ := ih i k
                  refine ⟨by simpa using a, fun m hm => ?_⟩
                  cases m with
                  | zero => simpa using hy
                  | succ m => simpa using b m (Nat.lt_of_succ_lt_succ hm)
          obtain ⟨k1, k2⟩ := key zs j e
          exact mt_tup_index pins s σ H _ _ v us Q I rx rxs ⟨a, zs, z, j, rfl, by rw [rI_str rw'], l.sq, k1, k2, q _ _ _ hr Kps.refl (.int _)⟩
  | .tup ys, [.int z], rd, rs, q =>
    have q : (match intsOf ys with
      | some ns => Res.guard (decide (z ∈ ns)) (Res.ok (D.int (ns.idxOf z : Nat)) h)
      | none => Res.stuck).wp _ := q
    cases e : intsOf ys with
    | none => rw [e] at q; exact False.elim q
    | some ns =>
      rw [e] at q
      obtain ⟨c, q⟩ := Res.wp_guard q
      obtain ⟨w, rfl, rw'⟩ := rels1 rs
      cases rd with
      | @tup a _ vs l rr =>
        have hz := ints_rel e rr
        subst hz
        exact mt_tup_indexI pins s σ H _ _ v us Q I rx rxs ⟨a, ns, z, rfl, by rw [rI_int rw'], l.sq, of_decide_eq_true c, q _ _ _ hr Kps.refl (.int _)⟩
theorem idxF_at {x : D} : ∀ {ys : List D} {j : Nat}, idxF x ys = some j → (∃ y, ys[j]? = some y ∧ eqFD y x = true) ∧ ∀ m y, m < j → ys[m]? = some y → eqFD y x = false
  | [], _, e => by cases e
  | y :: ys, j, e => by
    unfold idxF at e
    by_cases hy : eqFD y x = true
    · rw [if_pos hy] at e
      cases e
      exact ⟨⟨y, rfl, hy⟩, fun m z hm => absurd hm (Nat.not_lt_zero _)⟩
    · rw [if_neg hy] at e
      cases k : idxF x ys with
      | none => rw [k] at e; cases e
      | some i =>
        rw [k] at e
        cases e
        obtain ⟨⟨z, a, b⟩, c⟩ := idxF_at k
        refine ⟨⟨z, by simpa using a, b⟩, fun m z hm hz => ?_⟩
        cases m with
        | zero =>
          have : y = z := by simpa using hz
          subst this
          simpa using hy
        | succ m => exact c m z (Nat.lt_of_succ_lt_succ hm) (by simpa using hz)
theorem mt_indexLD : MtR X "list.index" (fun x xs H Q => ∃ h ρ d ds, HR X.K h ρ H ∧ Rel X.K h ρ H d x ∧ Rels X.K h ρ H ds xs ∧ (mtD .indexL d ds h).wp fun r h' => ∀ v H' ρ', HR X.K h' ρ' H' → Kp h ρ H h' ρ' H' → Rel X.K h' ρ' H' r v → Q v H') := by
  intro pins s σ H x xs v us Q I rx rxs hq
  obtain ⟨h, ρ, d, ds, hr, rd, rs, q⟩ := hq
  match ds, rs, q with
  | [], _, q => cases d <;> exact False.elim q
  | _ :: _ :: _, _, q => cases d <;> exact False.elim q
  | [z], rs, q =>
    have q : (match lstOf h d with
      | some ys => Res.guard (flatD z && ys.all flatD) (match idxF z ys with
        | some j => Res.ok (D.int (j : Nat)) h
        | none => Res.stuck)
      | none => Res.stuck).wp (fun r h' => ∀ v H' ρ', HR X.K h' ρ' H' → Kp h ρ H h' ρ' H' → Rel X.K h' ρ' H' r v → Q v H') := by cases d <;> exact q
    cases e : lstOf h d with
    | none => rw [e] at q; exact False.elim q
    | some ys =>
      rw [e] at q
      obtain ⟨c, q⟩ := Res.wp_guard q
      obtain ⟨c1, c2⟩ := Bool.and_eq_true_iff.mp c
      cases e2 : idxF z ys with
      | none => rw [e2] at q; exact False.elim q
      | some j =>
        rw [e2] at q
        obtain ⟨w, rfl, rw'⟩ := rels1 rs
        obtain ⟨a, vs, rfl, sq, rr⟩ := Rel.lstv0 hr rd e
        obtain ⟨⟨y, hy, ey⟩, no⟩ := idxF_at e2
        obtain ⟨v1, hv1, r1⟩ := rr.get hy
        have fy : flatD y = true := List.all_eq_true.mp c2 y (List.mem_of_getElem? hy)
        refine mt_index pins s σ H _ _ v us Q I rx rxs ⟨a, vs, w, j, v1, rfl, rfl, sq, (flat_rel rw' c1).1, (flats_rel rw' c1 rr c2).1, hv1, ?_, fun m z' hm hz => ?_, q _ _ _ hr Kps.refl (.int _)⟩
        · rw [← (flat_rel r1 fy).2 z w rw' c1]
          exact ey
        · obtain ⟨d2, hd2, r2⟩ := rr.get' hz
          have f2 : flatD d2 = true := List.all_eq_true.mp c2 d2 (List.mem_of_getElem? hd2)
          rw [← (flat_rel r2 f2).2 z w rw' c1]
          exact no m d2 hm hd2
def mtId : Mt → String
  | .append => "list.append" | .popAt => "list.pop" | .index => "tuple.index" | .indexL => "list.index"
def mtNm : Mt → Str
  | .append => "append" | .popAt => "pop" | .index => "index" | .indexL => "index"
theorem pe_mtD {m : Mt} {name : Str} {o e : Expr} {es : List Expr} {apos cpos : Pos} {fo : Sg → Hm → Res D} {fs : Sg → Hm → Res (List D)} (hn : name = mtNm m)
    (ho : PE X o (tE X.K fo)) (ha : PA X (e :: es) (tA X.K fs)) (ns : noStars (e :: es) = true) (hfew : (e :: es).length < 30)
    (hbase : notCall o = true) (hline : (apos.endLine == cpos.line) = true) :
    PE X (.Call (.Attribute o name apos) (e :: es) [] cpos) (tE X.K fun σ h => (fo σ h).bind fun x h1 => .guard (rcvD m x h1) ((fs σ h1).bind fun ds h2 => mtD m x ds h2)) := by
  subst hn
  cases m with
  | append =>
    refine pe_mtG PySem.F.plainAttrs_list PySem.F.slot_list_append PySem.F.type_list_append mt_appendD (fun h ρ H d v hr r c => ?_) ho ha ns hfew hbase hline
    cases d <;> first | exact Bool.noConfusion c | exact rcv_list hr r c
  | popAt =>
    refine pe_mtG PySem.F.plainAttrs_list PySem.F.slot_list_pop PySem.F.type_list_pop mt_popD (fun h ρ H d v hr r c => ?_) ho ha ns hfew hbase hline
    cases d <;> first | exact Bool.noConfusion c | exact rcv_list hr r c
  | index =>
    refine pe_mtG PySem.F.plainAttrs_tuple PySem.F.slot_tuple_index PySem.F.type_tuple_index mt_indexD (fun h ρ H d v hr r c => ?_) ho ha ns hfew hbase hline
    cases r with
    | tup l _ => exact ⟨_, rfl, .inr ⟨rfl, _, _, l⟩⟩
    | _ => exact Bool.noConfusion c
  | indexL =>
    refine pe_mtG PySem.F.plainAttrs_list PySem.F.slot_list_index PySem.F.type_list_index mt_indexLD (fun h ρ H d v hr r c => ?_) ho ha ns hfew hbase hline
    cases e : lstOf h d with
    | none =>
      have c : (lstOf h d).isSome = true := by cases d <;> exact c
      rw [e] at c
      cases c
    | some ys =>
      obtain ⟨a, vs, rfl, sq, _⟩ := Rel.lstv0 hr r e
      exact ⟨a, rfl, .inl ⟨rfl, vs, sq⟩⟩
end

/-! Mini 8: slices, calls of defs, what is walked, targets. -/
section
variable {X : Cx} {pos : Pos}
/-! ### slices -/
theorem slW {r r' : V → Option Int → Option Int → Hp → VK → Prop} (p : L2.SlR X r) (w : ∀ x lo hi H Q, r' x lo hi H Q → r x lo hi H Q) : L2.SlR X r' := fun pins s σ H x v vl vu lo hi sl Q I rx hs pl pu q => p pins s σ H x v vl vu lo hi sl Q I rx hs pl pu (w _ _ _ _ _ q)
theorem cutL_whole {α : Type} {xs : List α} {lo hi : Option Int} (h : HT.sIx xs.length 0 lo = 0 ∧ HT.sIx xs.length xs.length hi = xs.length) : cutL xs lo hi = xs := by
  unfold cutL
  rw [h.1, h.2, Nat.sub_zero, List.drop_zero, List.take_length]
theorem slR_any : L2.SlR X (fun x lo hi H Q => ∃ h ρ d, HR X.K h ρ H ∧ Rel X.K h ρ H d x ∧ (cutD d lo hi h).wp fun r h' => ∀ v H' ρ', HR X.K h' ρ' H' → Kp h ρ H h' ρ' H' → Rel X.K h' ρ' H' r v → Q v H') := slW (L2.SlR.or sl_list (L2.SlR.or sl_tupF sl_str)) fun x lo hi H Q hq => by
  obtain ⟨h, ρ, d, hr, rd, q⟩ := hq
  have lst : ∀ xs, lstOf h d = some xs → (Res.ok (D.lst (cutL xs lo hi)) h).wp (fun r h' => ∀ v H' ρ', HR X.K h' ρ' H' → Kp h ρ H h' ρ' H' → Rel X.K h' ρ' H' r v → Q v H') → L2.rSlL X.K x lo hi H Q := fun xs k q => by
    obtain ⟨a, vs, rfl, hs, rr⟩ := rd.lstv hr k
    refine ⟨a, vs, rfl, hs, fun p hp => q _ _ _ (hr.new hp) (Kp.new hr hp) (Rel.newL hr hp ?_)⟩
    unfold cutL cutV
    rw [rr.length]
    exact (rr.drop _).take _
  cases d with
  | lst ys => exact .inl (lst ys rfl q)
  | ref n =>
    have q : (match listOf? h n with
      | some xs => Res.ok (D.lst (cutL xs lo hi)) h
      | none => Res.stuck).wp _ := q
    cases k : listOf? h n with
    | none => rw [k] at q; exact False.elim q
    | some ys =>
      rw [k] at q
      exact .inl (lst ys k q)
  | tup ys =>
    refine .inr (.inl ?_)
    have r0 := rd
    cases rd with
    | @tup a _ vs l rr =>
      have hl := rr.length
      refine ⟨a, vs, rfl, l.sq, fun z => ?_, fun _ p o hp ho => q _ _ _ (hr.new hp) (Kp.new hr hp) (Rel.newT hr hp ho ?_)⟩
      · rw [← hl] at z
        have q : (Res.ok (D.tup (cutL ys lo hi)) h).wp _ := q
        rw [cutL_whole z] at q
        exact q _ _ _ hr Kps.refl r0
      · unfold cutL cutV
        rw [hl]
        exact (rr.drop _).take _
  | str z =>
    obtain ⟨c, q⟩ := Res.wp_guard q
    exact .inr (.inr ⟨z, rI_str rd, le_sz c, q _ _ _ hr Kps.refl (.str _)⟩)
  | _ => exact False.elim q
theorem pe_sliceD {e : Expr} {lo hi : Option Expr} {p2 : Pos} {fe : Sg → Hm → Res D} {fl fh : Sg → Hm → Res (Option Int)} (he : PE X e (tE X.K fe)) (hl : PO X lo (tP X.K fl)) (hh : PO X hi (tP X.K fh)) :
    PE X (.Subscript e (.Slice lo hi none p2) pos) (tE X.K fun σ h => (fe σ h).bind fun x h1 => (fl σ h1).bind fun l h2 => (fh σ h2).bind fun u h3 => cutD x l u h3) := by
  refine PE.w (pe_slice slR_any he hl hh) fun σV H Q ⟨σ, h, ρ, s, q⟩ => ?_
  refine tE_of s q fun d h1 v H1 ρ1 s1 k1 r1 q => ?_
  refine tP_of s1 q fun l h2 H2 ρ2 s2 k2 q => ?_
  refine tP_of s2 q fun u h3 H3 ρ3 s3 k3 q => ?_
  exact ⟨h3, ρ3, d, s3.hp, r1.mono (k2.trans k3), Res.wp_mono q fun r h4 q v4 H4 ρ4 hr4 k4 rr => q v4 H4 ρ4 (s3.of hr4 k4) (((k1.trans k2).trans k3).trans k4) rr⟩
theorem pe_revD {e : Expr} {k : Nat} {p1 p2 p3 : Pos} {fe : Sg → Hm → Res D} (he : PE X e (tE X.K fe)) :
    PE X (.Subscript e (.Slice none none (some (.UnaryOp .USub (.Constant (.int 1) k p1) p2)) p3) pos) (tE X.K fun σ h => (fe σ h).bind fun x h1 => revD x h1) := by
  refine PE.w (pe_revA he) fun σV H Q ⟨σ, h, ρ, s, q⟩ => ?_
  refine tE_of s q fun d h1 v H1 ρ1 s1 k1 r1 q => ?_
  have lst : ∀ xs, lstOf h1 d = some xs → (Res.ok (D.lst xs.reverse) h1).wp (fun r h' => ∀ v H' ρ', SR X.K σ h' ρ' σV H' → Kp h ρ H h' ρ' H' → Rel X.K h' ρ' H' r v → Q v H') → ∃ a xs, v = .ref a ∧ ((SqL X.K H1 a xs ∧ ∀ p, H1 p = none → Q (.ref p) (upd H1 p (.lst xs.reverse))) ∨
      (SqT X.K H1 a xs ∧ ∀ (p : Addr) (o : Obj), H1 p = none → o.dict = none → Q (.ref p) (upd H1 p (.frz o (.tup xs.reverse))))) := fun xs e q => by
    obtain ⟨a, vs, rfl, hs, rr⟩ := r1.lstv0 s1.hp e
    exact ⟨a, vs, rfl, .inl ⟨hs, fun p hp => q _ _ _ (s1.new hp) (k1.trans (Kp.new s1.hp hp)) (Rel.newL s1.hp hp rr.reverse)⟩⟩
  cases d with
  | tup xs =>
    cases r1 with
    | @tup a _ vs l rr => exact ⟨a, vs, rfl, .inr ⟨l.sq, fun p o hp ho => q _ _ _ (s1.new hp) (k1.trans (Kp.new s1.hp hp)) (Rel.newT s1.hp hp ho rr.reverse)⟩⟩
  | lst xs => exact lst xs rfl q
  | ref n =>
    have q : (match listOf? h1 n with
      | some xs => Res.ok (D.lst xs.reverse) h1
      | none => Res.stuck).wp _ := q
    cases k : listOf? h1 n with
    | none => rw [k] at q; exact False.elim q
    | some xs =>
      rw [k] at q
      exact lst xs k q
  | _ => exact False.elim q
theorem po_noneD : PO X none (tP X.K fun _ h => .ok none h) := PO.w po_none fun σV H Q ⟨σ, h, ρ, s, q⟩ => q H ρ s Kps.refl
theorem po_someD {e : Expr} {f : Sg → Hm → Res D} (he : PE X e (tE X.K f)) : PO X (some e) (tP X.K fun σ h => (f σ h).bind fun x h1 => match x with
    | .int i => .ok (some i) h1
    | _ => .stuck) := by
  refine PO.w (po_some he) fun σV H Q ⟨σ, h, ρ, s, q⟩ => ?_
  refine tE_of s q fun d h1 v H1 ρ1 s1 k1 r1 q => ?_
  cases d with
  | int i => exact ⟨i, rI_int r1, q _ _ s1 k1⟩
  | _ => exact False.elim q

/-! ### calls of defs -/
/-- the field of a class of the package -/
def fldOf (x : Str) : Option Str := if x ∈ (["InvalidTable", "InvalidText", "InvalidCommand"] : List Str) then some "index" else if x ∈ (["InvalidTelling", "InvalidPicture"] : List Str) then some "place" else if x = ("TooMany" : Str) then some "count" else
  if x ∈ (["Unknown", "Twice"] : List Str) then some "word" else none
/-- what is raised, as it lies -/
def RX (K : PySem.W.Frag) (h : Hm) (ρ : List Addr) (H : Hp) (x : Exn) (cls : Value) (dd : Option Addr) : Prop :=
  (∃ C, PySem.W.nsIn K mainGlobals x.cls = some (some (.ref C)) ∧ cls = .ref C) ∧ match fldOf x.cls with
  | none => dd = none ∧ x.val = .non
  | some f => ∃ a v, dd = some a ∧ H a = some (.xd [(f, v)]) ∧ Rel K h ρ H x.val v
/-- as many arguments as there are parameters -/
structure LenOk (den : List D → Hm → Res D) (n : Nat) : Prop where
  ok : ∀ ds h r h', den ds h = .ok r h' → ds.length = n
  er : ∀ ds h x h', den ds h = .err x h' → ds.length = n
def spD (K : PySem.W.Frag) (n : Nat) (den : List D → Hm → Res D) : Sp := fun vs H Q E => vs.length = n ∧ ∃ h ρ ds, HR K h ρ H ∧ Rels K h ρ H ds vs ∧ (den ds h).wpx (fun d h' => ∀ v H' ρ', HR K h' ρ' H' → Kp h ρ H h' ρ' H' → Rel K h' ρ' H' d v → Q v H')
  fun x h' => ∀ cls dd H' ρ', HR K h' ρ' H' → Kp h ρ H h' ρ' H' → RX K h' ρ' H' x cls dd → E cls dd H'
structure CallOk (X : Cx) (x : Str) (den : List D → Hm → Res D) : Prop where
  ex : ∃ (f : Addr) (fd : FuncData) (ps : List Str) (k : Nat), FnOk X.prog X.w X.K X.mg X.base (L2.CX X.prog X.w) k f fd ps (spD X.K ps.length den) ∧ Room k X.A ∧ X.mg x = some (.ref f) ∧ PySem.W.keepIn X.K (.ref f) = true ∧ Binds X.K fd ps [] ∧
    LenOk den ps.length ∧ PySem.W.nsIn X.K mainGlobals x = some (some (.ref f))
/-- f(.., k = v): the values by their places -/
structure CallKOk (X : Cx) (x : Str) (den : List D → Hm → Res D) (n : Nat) (ks : List Str) (perm : List Nat) : Prop where
  ex : ∃ (f : Addr) (fd : FuncData) (ps : List Str) (k : Nat), FnOk X.prog X.w X.K X.mg X.base (L2.CX X.prog X.w) k f fd ps (spD X.K ps.length den) ∧ Room k X.A ∧ X.mg x = some (.ref f) ∧ PySem.W.keepIn X.K (.ref f) = true ∧
    (∀ (s : Shared) (us ws : List Value), X.K.In s.heap → us.length = n → ws.length = ks.length → BindsTo s fd ⟨us, ks.zip ws⟩ (ps.zip (permV perm Value.none us ws))) ∧ LenOk den ps.length
theorem sp_of {K : PySem.W.Frag} {n : Nat} {den : List D → Hm → Res D} {σ : Sg} {h0 h : Hm} {ρ0 ρ : List Addr} {σV : L2.St} {H0 H : Hp} {ds : List D} {vs : List V} {Q : VK} (hn : LenOk den n) (s : SR K σ h ρ σV H) (k0 : Kp h0 ρ0 H0 h ρ H) (r : Rels K h ρ H ds vs)
    (q : (den ds h).wp fun d h' => ∀ v H' ρ', SR K σ h' ρ' σV H' → Kp h0 ρ0 H0 h' ρ' H' → Rel K h' ρ' H' d v → Q v H') : spD K n den vs H Q E0 := by
  cases e : den ds h with
  | stuck => rw [e] at q; exact False.elim q
  | err _ _ => rw [e] at q; exact False.elim q
  | ok d h' =>
    refine ⟨by rw [← r.length]; exact hn.ok _ _ _ _ e, h, ρ, ds, s.hp, r, ?_⟩
    rw [e] at q ⊢
    exact fun v3 H3 ρ3 hr3 k3 rr => q v3 H3 ρ3 (s.of hr3 k3) (k0.trans k3) rr
/-- .. of a call that may raise -/
theorem sp_ofX {K : PySem.W.Frag} {n : Nat} {den : List D → Hm → Res D} {σ : Sg} {h0 h : Hm} {ρ0 ρ : List Addr} {σV : L2.St} {H0 H : Hp} {ds : List D} {vs : List V} {Q : VK} {E : XK} (hn : LenOk den n) (s : SR K σ h ρ σV H) (k0 : Kp h0 ρ0 H0 h ρ H) (r : Rels K h ρ H ds vs)
    (q : (den ds h).wpx (fun d h' => ∀ v H' ρ', SR K σ h' ρ' σV H' → Kp h0 ρ0 H0 h' ρ' H' → Rel K h' ρ' H' d v → Q v H') fun x h' => ∀ cls dd H' ρ', SR K σ h' ρ' σV H' → Kp h0 ρ0 H0 h' ρ' H' → RX K h' ρ' H' x cls dd → E cls dd H') : spD K n den vs H Q E := by
  cases e : den ds h with
  | stuck => rw [e] at q; exact False.elim q
  | ok d h' =>
    refine ⟨by rw [← r.length]; exact hn.ok _ _ _ _ e, h, ρ, ds, s.hp, r, ?_⟩
    rw [e] at q ⊢
    exact fun v3 H3 ρ3 hr3 k3 rr => q v3 H3 ρ3 (s.of hr3 k3) (k0.trans k3) rr
  | err x h' =>
    refine ⟨by rw [← r.length]; exact hn.er _ _ _ _ e, h, ρ, ds, s.hp, r, ?_⟩
    rw [e] at q ⊢
    exact fun cls dd H3 ρ3 hr3 k3 rr => q cls dd H3 ρ3 (s.of hr3 k3) (k0.trans k3) rr
theorem pe_callD {x : Str} {p : Pos} {e : Expr} {es : List Expr} {f : Sg → Hm → Res (List D)} {den : List D → Hm → Res D} (c : CallOk X x den) (hg : Gl X x) (hdb : (x == ("__debug__" : Str)) = false) (ha : PA X (e :: es) (tA X.K f)) (ns : noStars (e :: es) = true) :
    PE X (.Call (.Name x p) (e :: es) [] pos) (tE X.K fun σ h => (f σ h).bind fun ds h1 => den ds h1) := by
  obtain ⟨g, fd, ps, k, F, hr, hm, hk, hb, hn, _⟩ := c.ex
  have st : starEach (e :: es) X.env = (false, eval e X.env) :: starEach es X.env := star_cons (by
    unfold noStars at ns
    rw [List.all_cons, Bool.and_eq_true] at ns
    exact ns.1)
  have sn : (backTo pos (starEach es X.env)).any (·.1) = false := stars_none (by
    unfold noStars at ns ⊢
    rw [List.all_cons, Bool.and_eq_true] at ns
    exact ns.2)
  refine PE.w (pe_call F hr hg hm hk hb .nil passL ha hdb st sn) fun σV H Q ⟨σ, h, ρ, s, q⟩ => ?_
  refine tA_of s q fun ds h1 vs H1 ρ1 s1 k1 r1 q => ?_
  rw [List.append_nil]
  exact sp_of hn s1 k1 r1 q
theorem pe_call0D {x : Str} {p : Pos} {den : List D → Hm → Res D} (c : CallOk X x den) (hg : Gl X x) (hdb : (x == ("__debug__" : Str)) = false) :
    PE X (.Call (.Name x p) [] [] pos) (tE X.K fun σ h => den [] h) := by
  obtain ⟨g, fd, ps, k, F, hr, hm, hk, hb, hn, _⟩ := c.ex
  refine PE.w (pe_call0 F hr hg hm hk hb .nil passL hdb) fun σV H Q ⟨σ, h, ρ, s, q⟩ => ?_
  exact sp_of hn s Kps.refl .nil q
theorem pk_nilD : PK X [] (tA X.K fun _ h => .ok [] h) := ⟨fun pos pins s σ H Q I ⟨σD, h, ρ, sr, q⟩ => pk_nil.run pos pins s σ H Q I (q [] H ρ sr Kps.refl .nil)⟩
theorem pk_consD {nm : Option Str} {e : Expr} {kp : Pos} {kws : List Keyword} {f : Sg → Hm → Res D} {g : Sg → Hm → Res (List D)} (ha : PE X e (tE X.K f)) (hr : PK X kws (tA X.K g)) :
    PK X (⟨nm, e, kp⟩ :: kws) (tA X.K fun σ h => (f σ h).bind fun x h1 => (g σ h1).bind fun xs h2 => .ok (x :: xs) h2) := ⟨fun pos pins s σV H Q I ⟨σ, h, ρ, sr, q⟩ => (pk_cons ha hr).run pos pins s σV H Q I (by
  refine tE_of sr q fun d h1 v H1 ρ1 s1 k1 r1 q => ?_
  refine tA_of s1 q fun ds h2 vs H2 ρ2 s2 k2 r2 q => ?_
  exact q _ _ _ s2 (k1.trans k2) (.cons (r1.mono k2) r2))⟩
theorem permV_rel {K : PySem.W.Frag} {h : Hm} {ρ : List Addr} {H : Hp} {ds ks : List D} {vs ws : List V} (a : Rels K h ρ H ds vs) (b : Rels K h ρ H ks ws) : ∀ perm : List Nat, Rels K h ρ H (permV perm D.non ds ks) (permV perm V.non vs ws)
  | [] => .nil
  | i :: is => by
    refine .cons ?_ (permV_rel a b is)
    have r := a.append b
    cases e : (ds ++ ks)[i]? with
    | some d =>
      obtain ⟨v, h1, h2⟩ := r.get e
      dsimp only
      rw [List.getD_eq_getElem?_getD, List.getD_eq_getElem?_getD, e, h1]
      exact h2
    | none =>
      have : (vs ++ ws)[i]? = none := by
        have hl := r.length
        rw [List.getElem?_eq_none_iff] at e ⊢
        omega
      dsimp only
      rw [List.getD_eq_getElem?_getD, List.getD_eq_getElem?_getD, e, this]
      exact .non
theorem permV_vals {us : List V} {vs : List Value} {ws : List V} {zs : List Value} (a : Vals us vs) (b : Vals ws zs) : ∀ perm : List Nat, Vals (permV perm V.non us ws) (permV perm Value.none vs zs)
  | [] => .nil
  | i :: is => by
    refine .cons ?_ (permV_vals a b is)
    have r := a.append b
    cases e : (us ++ ws)[i]? with
    | some d =>
      obtain ⟨v, h1, h2⟩ := r.get e
      dsimp only
      rw [List.getD_eq_getElem?_getD, List.getD_eq_getElem?_getD, e, h1]
      exact h2
    | none =>
      have := r.none_of e
      dsimp only
      rw [List.getD_eq_getElem?_getD, List.getD_eq_getElem?_getD, e, this]
      rfl
theorem kbn_perm {K : PySem.W.Frag} {fd : FuncData} {ps ks : List Str} {n : Nat} {perm : List Nat} (h : ∀ (s : Shared) (us ws : List Value), K.In s.heap → us.length = n → ws.length = ks.length → BindsTo s fd ⟨us, ks.zip ws⟩ (ps.zip (permV perm Value.none us ws))) :
    KBn K fd ps n ks (permV perm Value.none) (permV perm V.non) := ⟨h, fun a b => permV_vals a b perm⟩
theorem kw_all {ks : List Str} {kws : List Keyword} {env : Env} {pos : Pos} (h : kws.map (·.arg) = ks.map some) : (backToKw pos (keywordEach kws env)).all (·.1.isSome) = true ∧ (backToKw pos (keywordEach kws env)).filterMap (·.1) = ks ∧ (backToKw pos (keywordEach kws env)).any (·.1.isNone) = false := by
  induction kws generalizing ks with
  | nil =>
    cases ks with
    | nil => exact ⟨rfl, rfl, rfl⟩
    | cons a b => cases h
  | cons k kws ih =>
    cases ks with
    | nil => cases h
    | cons a b =>
      obtain ⟨nm, e, kp⟩ := k
      simp only [List.map_cons, List.cons.injEq] at h
      obtain ⟨h1, h2⟩ := h
      subst h1
      obtain ⟨i1, i2, i3⟩ := ih h2
      refine ⟨?_, ?_, ?_⟩
      · show (true && (backToKw pos (keywordEach kws env)).all (·.1.isSome)) = true
        rw [i1]; rfl
      · show a :: (backToKw pos (keywordEach kws env)).filterMap (·.1) = a :: b
        rw [i2]
      · show (false || (backToKw pos (keywordEach kws env)).any (·.1.isNone)) = false
        rw [i3]; rfl
theorem any_split {α : Type} {p q : Bool} (a : p = false) (b : q = false) : (p || q) = false := by rw [a, b]; rfl
theorem pe_callkD {x : Str} {p : Pos} {e : Expr} {es : List Expr} {kws : List Keyword} {n : Nat} {ks : List Str} {perm : List Nat} {f g : Sg → Hm → Res (List D)} {den : List D → Hm → Res D} (c : CallKOk X x den n ks perm) (hg : Gl X x) (hdb : (x == ("__debug__" : Str)) = false)
    (ha : PA X (e :: es) (tA X.K f)) (hkw : PK X kws (tA X.K g)) (ns : noStars (e :: es) = true) (hks : kws.map (·.arg) = ks.map some) (hl : (e :: es).length = n) (hl2 : ∀ σ h ds h', f σ h = .ok ds h' → ds.length = (e :: es).length) (hl3 : ∀ σ h ds h', g σ h = .ok ds h' → ds.length = kws.length) :
    PE X (.Call (.Name x p) (e :: es) kws pos) (tE X.K fun σ h => (f σ h).bind fun ds h1 => (g σ h1).bind fun zs h2 => den (permV perm D.non ds zs) h2) := by
  obtain ⟨fa, fd, ps, k, F, hr, hm, hk, hb, hn⟩ := c.ex
  obtain ⟨k1, k2, k3⟩ := kw_all (env := X.env) (pos := pos) hks
  have hlk : ks.length = kws.length := by
    have := congrArg List.length hks
    simpa using this.symm
  have st : starEach (e :: es) X.env = (false, eval e X.env) :: starEach es X.env := star_cons (by
    unfold noStars at ns
    rw [List.all_cons, Bool.and_eq_true] at ns
    exact ns.1)
  refine PE.w (pe_callN F hr hg hm hk (kbn_perm (perm := perm) hb) passL ha hkw k1 k2 hdb st (any_split (α := Unit) (stars_none ns) k3)) ?_
  rintro σV H Q ⟨σ, h, ρ, s, q⟩
  refine ⟨σ, h, ρ, s, ?_⟩
  cases e1 : f σ h with
  | stuck =>
    dsimp only at q
    rw [e1] at q
    exact False.elim q
  | err _ _ =>
    dsimp only at q
    rw [e1] at q
    exact False.elim q
  | ok ds h1 =>
    dsimp only at q
    rw [e1] at q
    intro vs H1 ρ1 s1 k1 r1
    refine ⟨σ, h1, ρ1, s1, ?_⟩
    cases e2 : g σ h1 with
    | stuck =>
      rw [Res.bind_ok, e2] at q
      exact False.elim q
    | err _ _ =>
      rw [Res.bind_ok, e2] at q
      exact False.elim q
    | ok zs h2 =>
      rw [Res.bind_ok, e2] at q
      intro ws H2 ρ2 s2 k2 r2
      refine ⟨?_, ?_, sp_of hn s2 (k1.trans k2) (permV_rel (r1.mono k2) r2 perm) q⟩
      · rw [← r1.length, hl2 _ _ _ _ e1, hl]
      · rw [← r2.length, hl3 _ _ _ _ e2, hlk]
theorem pe_callk0D {x : Str} {p : Pos} {kws : List Keyword} {ks : List Str} {perm : List Nat} {g : Sg → Hm → Res (List D)} {den : List D → Hm → Res D} (c : CallKOk X x den 0 ks perm) (hg : Gl X x) (hdb : (x == ("__debug__" : Str)) = false)
    (hkw : PK X kws (tA X.K g)) (hks : kws.map (·.arg) = ks.map some) (hl3 : ∀ σ h ds h', g σ h = .ok ds h' → ds.length = kws.length) :
    PE X (.Call (.Name x p) [] kws pos) (tE X.K fun σ h => (g σ h).bind fun zs h2 => den (permV perm D.non [] zs) h2) := by
  obtain ⟨fa, fd, ps, k, F, hr, hm, hk, hb, hn⟩ := c.ex
  obtain ⟨k1, k2, k3⟩ := kw_all (env := X.env) (pos := pos) hks
  have hlk : ks.length = kws.length := by
    have := congrArg List.length hks
    simpa using this.symm
  refine ⟨fun pins s σV H Q I ⟨σ, h, ρ, sr, q⟩ => ?_⟩
  refine wpAny_Call_Name_kw (ld_glob I hg hm ?_ hdb)
  refine PySem.W.callWith_KW0 (h₀ := X.base) I.ok.mod.kin hk k1 ?_ (any_split (α := Unit) (by rfl) k3)
  have q0 : tA X.K g σV H fun zs H2 => zs.length = ks.length ∧ spD X.K ps.length den (permV perm V.non [] zs) H2 Q E0 := by
    refine ⟨σ, h, ρ, sr, ?_⟩
    cases e2 : g σ h with
    | stuck =>
      dsimp only at q
      rw [e2] at q
      exact False.elim q
    | err _ _ =>
      dsimp only at q
      rw [e2] at q
      exact False.elim q
    | ok zs h2 =>
      dsimp only at q
      rw [e2, Res.bind_ok] at q
      intro ws H2 ρ2 s2 k2 r2
      exact ⟨by rw [← r2.length, hl3 _ _ _ _ e2, hlk], sp_of hn s2 k2 (permV_rel .nil r2 perm) q⟩
  refine thn (hkw.run pos pins s σV H _ I q0) fun ws s2 ⟨zs, H2, I2, rz, l2, q2⟩ => ⟨I2.kIn, ?_⟩
  rw [k2]
  exact run_fnN (us := []) (vs := []) F hr (kbn_perm (perm := perm) hb) passL I2 .nil rz rfl l2 q2

/-! ### calls that may raise -/
def tX (K : PySem.W.Frag) (W : WX) (f : Sg → Hm → (D → Hm → Prop) → (Exn → Hm → Prop) → Prop) : TE := fun σV H Q => ∃ σ h ρ, SR K σ h ρ σV H ∧ f σ h (fun d h' => ∀ v H' ρ', SR K σ h' ρ' σV H' → Kp h ρ H h' ρ' H' → Rel K h' ρ' H' d v → Q v H')
  fun x h' => ∀ cls dd H' ρ', SR K σ h' ρ' σV H' → Kp h ρ H h' ρ' H' → RX K h' ρ' H' x cls dd → W cls dd σV H'
theorem pe_callXD {x : Str} {p : Pos} {e : Expr} {es : List Expr} {W : WX} {f : Sg → Hm → Res (List D)} {den : List D → Hm → Res D} (tk : Takes X W) (c : CallOk X x den) (hg : Gl X x) (hdb : (x == ("__debug__" : Str)) = false) (ha : PA X (e :: es) (tA X.K f)) (ns : noStars (e :: es) = true) :
    PE X (.Call (.Name x p) (e :: es) [] pos) (tX X.K W fun σ h Q E => (f σ h).wp fun ds h1 => (den ds h1).wpx Q E) := by
  obtain ⟨g, fd, ps, k, F, hr, hm, hk, hb, hn, _⟩ := c.ex
  have st : starEach (e :: es) X.env = (false, eval e X.env) :: starEach es X.env := star_cons (by
    unfold noStars at ns
    rw [List.all_cons, Bool.and_eq_true] at ns
    exact ns.1)
  have sn : (backTo pos (starEach es X.env)).any (·.1) = false := stars_none (by
    unfold noStars at ns ⊢
    rw [List.all_cons, Bool.and_eq_true] at ns
    exact ns.2)
  refine PE.w (pe_callS F hr hg hm hk hb (fun σ => passAt tk σ) ha hdb st sn) fun σV H Q ⟨σ, h, ρ, s, q⟩ => ?_
  refine ⟨σ, h, ρ, s, Res.wp_mono q fun ds h1 q vs H1 ρ1 s1 k1 r1 => ?_⟩
  exact sp_ofX hn s1 k1 r1 q
/-- the keywords' call, with what leaves it at the slots -/
theorem run_kwX {f : Addr} {fd : FuncData} {ps ks : List Str} {n k : Nat} {sp : Sp} {gg : List Value → List Value → List Value} {gV : List V → List V → List V} {W : WX} {pins : List (Addr × Obj)} {σ : L2.St} {H : Hp} {s : Shared} {Q : VK} {us ws : List Value} {vs zs : List V} (F : FnOk X.prog X.w X.K X.mg X.base (L2.CX X.prog X.w) k f fd ps sp) (hr : Room k X.A) (hb : KBn X.K fd ps n ks gg gV)
    (tk : Takes X W) (I : Inv X pins σ H s) (r : Vals vs us) (rz : Vals zs ws) (l1 : vs.length = n) (l2 : zs.length = ks.length) (want : sp (gV vs zs) H Q (WE W σ)) : wpAny (model X.prog X.w) X.A (call (.ref f) us (ks.zip ws)) (EP X pins σ Q) X.xe s := by
  have r2 := hb.rel r rz
  have run := F.run X.A X.stack s H ⟨us, ks.zip ws⟩ (gg us ws) (gV vs zs) Q (WE W σ) hr I.env0 (hb.to s us ws I.kIn (r.length.symm.trans l1) (rz.length.symm.trans l2)) r2 want
  refine wpAny_call (codeAny_mono run fun out s' back => ?_)
  cases out with
  | error e => exact passAt tk σ pins H s e s' I back
  | ok fl =>
    cases fl with
    | ret u => exact I.after back
    | next => exact back.elim
    | brk => exact back.elim
    | cont => exact back.elim
theorem pe_callkXD {x : Str} {p : Pos} {es : List Expr} {kws : List Keyword} {n : Nat} {ks : List Str} {perm : List Nat} {W : WX} {f g : Sg → Hm → Res (List D)} {den : List D → Hm → Res D} (tk : Takes X W) (c : CallKOk X x den n ks perm) (hg : Gl X x) (hdb : (x == ("__debug__" : Str)) = false)
    (ha : PA X es (tA X.K f)) (hkw : PK X kws (tA X.K g)) (ns : noStars es = true) (hks : kws.map (·.arg) = ks.map some) (hl : es.length = n) (hz : es = [] → ∀ σ h, f σ h = .ok [] h) (hl2 : ∀ σ h ds h', f σ h = .ok ds h' → ds.length = es.length) (hl3 : ∀ σ h ds h', g σ h = .ok ds h' → ds.length = kws.length) :
    PE X (.Call (.Name x p) es kws pos) (tX X.K W fun σ h Q E => (f σ h).wp fun ds h1 => (g σ h1).wp fun zs h2 => (den (permV perm D.non ds zs) h2).wpx Q E) := by
  obtain ⟨fa, fd, ps, k, F, hr, hm, hk, hb, hn⟩ := c.ex
  obtain ⟨k1, k2, k3⟩ := kw_all (env := X.env) (pos := pos) hks
  have hlk : ks.length = kws.length := by
    have := congrArg List.length hks
    simpa using this.symm
  refine ⟨fun pins s σV H Q I ⟨σ, h, ρ, sr, q⟩ => ?_⟩
  dsimp only at q
  refine wpAny_Call_Name_kw (ld_glob I hg hm ?_ hdb)
  have qk : ∀ {h1 : Hm} {ds : List D} {vs : List V} {H1 : Hp} {ρ1 : List Addr}, SR X.K σ h1 ρ1 σV H1 → Kp h ρ H h1 ρ1 H1 → Rels X.K h1 ρ1 H1 ds vs → vs.length = n → ((g σ h1).wp fun zs h2 => (den (permV perm D.non ds zs) h2).wpx
      (fun d h' => ∀ v H' ρ', SR X.K σ h' ρ' σV H' → Kp h ρ H h' ρ' H' → Rel X.K h' ρ' H' d v → Q v H') fun x h' => ∀ cls dd H' ρ', SR X.K σ h' ρ' σV H' → Kp h ρ H h' ρ' H' → RX X.K h' ρ' H' x cls dd → W cls dd σV H') →
      tA X.K g σV H1 fun zs H2 => vs.length = n ∧ zs.length = ks.length ∧ spD X.K ps.length den (permV perm V.non vs zs) H2 Q (WE W σV) := by
    intro h1 ds vs H1 ρ1 s1 kk r1 ln q
    refine ⟨σ, h1, ρ1, s1, ?_⟩
    cases e2 : g σ h1 with
    | stuck => rw [e2] at q; exact False.elim q
    | err _ _ => rw [e2] at q; exact False.elim q
    | ok zs h2 =>
      rw [e2] at q
      intro ws H2 ρ2 s2 k2 r2
      exact ⟨ln, by rw [← r2.length, hl3 _ _ _ _ e2, hlk], sp_ofX hn s2 (kk.trans k2) (permV_rel (r1.mono k2) r2 perm) q⟩
  cases es with
  | nil =>
    refine PySem.W.callWith_KW0 (h₀ := X.base) I.ok.mod.kin hk k1 ?_ (any_split (α := Unit) (by rfl) k3)
    have q0 : (g σ h).wp fun zs h2 => (den (permV perm D.non [] zs) h2).wpx
        (fun d h' => ∀ v H' ρ', SR X.K σ h' ρ' σV H' → Kp h ρ H h' ρ' H' → Rel X.K h' ρ' H' d v → Q v H') fun x h' => ∀ cls dd H' ρ', SR X.K σ h' ρ' σV H' → Kp h ρ H h' ρ' H' → RX X.K h' ρ' H' x cls dd → W cls dd σV H' := by
      rw [hz rfl] at q
      exact q
    refine thn (hkw.run pos pins s σV H _ I (qk sr Kps.refl .nil hl q0)) fun ws s2 ⟨zs, H2, I2, rz, l1, l2, q2⟩ => ⟨I2.kIn, ?_⟩
    rw [k2]
    exact run_kwX (us := []) (vs := []) F hr (kbn_perm (perm := perm) hb) tk I2 .nil rz l1 l2 q2
  | cons e es =>
    have st : starEach (e :: es) X.env = (false, eval e X.env) :: starEach es X.env := star_cons (by
      unfold noStars at ns
      rw [List.all_cons, Bool.and_eq_true] at ns
      exact ns.1)
    have q1 : tA X.K f σV H fun vs H1 => tA X.K g σV H1 fun zs H2 => vs.length = n ∧ zs.length = ks.length ∧ spD X.K ps.length den (permV perm V.non vs zs) H2 Q (WE W σV) := by
      refine ⟨σ, h, ρ, sr, ?_⟩
      cases e1 : f σ h with
      | stuck => rw [e1] at q; exact False.elim q
      | err _ _ => rw [e1] at q; exact False.elim q
      | ok ds h1 =>
        rw [e1] at q
        intro vs H1 ρ1 s1 kk r1
        exact qk s1 kk r1 (by rw [← r1.length, hl2 _ _ _ _ e1, hl]) q
    refine PySem.W.callWith_KW (h₀ := X.base) I.ok.mod.kin hk k1 (thn (ha.run pos pins s σV H _ I q1) fun us s1 ⟨vs, H1, I1, r, q⟩ => ?_) (any_split (α := Unit) (stars_none ns) k3) st
    refine thn (hkw.run pos pins s1 σV H1 _ I1 q) fun ws s2 ⟨zs, H2, I2, rz, l1, l2, q2⟩ => ⟨I2.kIn, ?_⟩
    rw [k2]
    exact run_kwX F hr (kbn_perm (perm := perm) hb) tk I2 r rz l1 l2 q2
end

/-! Mini 9: what is walked, targets, comprehensions. -/

/-- an iterator walks the items -/
def ItR (K : PySem.W.Frag) (J : L2.It) (xs : List D) (h : Hm) (ρ : List Addr) (H : Hp) : Prop := ∀ h2 ρ2 H2, HR K h2 ρ2 H2 → Kp h ρ H h2 ρ2 H2 →
  (∀ (i : Nat) (d : D), xs[i]? = some d → J.go i H2 ∧ ∀ x H3, J.yld i H2 x H3 → HR K h2 ρ2 H3 ∧ Kp h2 ρ2 H2 h2 ρ2 H3 ∧ Rel K h2 ρ2 H3 d x) ∧ J.stop xs.length H2
def tI (K : PySem.W.Frag) (f : Sg → Hm → Res (List D)) : TI := fun σV H R => ∃ σ h ρ, SR K σ h ρ σV H ∧ (f σ h).wp fun xs h' => ∀ J H' ρ', SR K σ h' ρ' σV H' → Kp h ρ H h' ρ' H' → ItR K J xs h' ρ' H' → R J H'
theorem PI.w {X : Cx} {tg it : Expr} {t t' : TI} (p : PI X tg it t) (w : ∀ σ H R, t' σ H R → t σ H R) : PI X tg it t' := ⟨fun pins s σ H R I q => p.run pins s σ H R I (w σ H R q)⟩
section
variable {X : Cx} {pos : Pos} {tg : Expr}
theorem pi_seq {l : Expr} {tl : TE} (hl : PE X l tl) : PI X tg l (fun σ H R => tl σ H fun x H1 => ∃ a, x = .ref a ∧ (((∃ xs, SqL X.K H1 a xs) ∧ R (Itl X.K a) H1) ∨ ((∃ xs, SqT X.K H1 a xs) ∧ R (Itt X.K a) H1))) := by
  refine ⟨fun pins s σ H R I h => ?_⟩
  refine thn (hl.run pins s σ H _ I h) fun v s1 ⟨x, H1, I1, r1, q1⟩ => ?_
  obtain ⟨a, e, q⟩ := q1
  subst e
  cases r1
  have hf : ∀ b ∈ [s1.heap.objs.size], FpOk X pins H1 b := fun b hb => by
    have e : b = s1.heap.objs.size := by simpa using hb
    subst e
    exact I1.fpOk (Nat.le_refl _) (I1.hok.fresh (Nat.le_refl _))
  rcases q with ⟨⟨xs, hq⟩, q⟩ | ⟨⟨xs, hq⟩, q⟩
  · obtain ⟨its, rv, p, hz⟩ := I1.list hq
    refine wpAny_pyIter_list p.isList ?_
    exact ⟨s1.heap.objs.size, [s1.heap.objs.size], _, _, H1, rfl, I1.kept (t' := s1.toks) fun b o e => Heap.get?_push_of_some _ e, turn_list a _, ⟨_, Heap.get?_push_size _ rfl, rfl, rfl⟩, hf, q⟩
  · obtain ⟨its, rv, p, hz⟩ := I1.tuple hq
    refine wpAny_pyIter_tuple (show s1.heap.IsTuple a its.toArray from p) ?_
    exact ⟨s1.heap.objs.size, [s1.heap.objs.size], _, _, H1, rfl, I1.kept (t' := s1.toks) fun b o e => Heap.get?_push_of_some _ e, turn_tuple a _, ⟨_, Heap.get?_push_size _ rfl, rfl, rfl⟩, hf, q⟩
theorem itR_list {K : PySem.W.Frag} {h : Hm} {ρ : List Addr} {H : Hp} {a : Addr} {xs : List D} (r : Rel K h ρ H (.lst xs) (.ref a)) : ItR K (Itl K a) xs h ρ H := by
  intro h2 ρ2 H2 hr k
  have r2 := RD.mono k r
  cases r2 with
  | @lst _ _ vs l q =>
    refine ⟨fun i d e => ?_, vs, l.sq, by rw [q.length]; exact Nat.le_refl _⟩
    obtain ⟨v, e1, e2⟩ := q.get e
    refine ⟨⟨vs, v, l.sq, e1⟩, ?_⟩
    rintro x H3 ⟨rfl, y⟩
    have e3 := y vs l.sq
    rw [e1] at e3
    cases e3
    exact ⟨hr, Kps.refl, e2⟩
theorem itR_tup {K : PySem.W.Frag} {h : Hm} {ρ : List Addr} {H : Hp} {a : Addr} {xs : List D} (r : Rel K h ρ H (.tup xs) (.ref a)) : ItR K (Itt K a) xs h ρ H := by
  intro h2 ρ2 H2 hr k
  have r2 := RD.mono k r
  cases r2 with
  | @tup _ _ vs l q =>
    refine ⟨fun i d e => ?_, vs, l.sq, by rw [q.length]; exact Nat.le_refl _⟩
    obtain ⟨v, e1, e2⟩ := q.get e
    refine ⟨⟨vs, v, l.sq, e1⟩, ?_⟩
    rintro x H3 ⟨rfl, y⟩
    have e3 := y vs l.sq
    rw [e1] at e3
    cases e3
    exact ⟨hr, Kps.refl, e2⟩
theorem pi_seqD {l : Expr} {f : Sg → Hm → Res D} (hl : PE X l (tE X.K f)) : PI X tg l (tI X.K fun σ h => (f σ h).bind itD) := by
  refine PI.w (pi_seq hl) fun σV H R ⟨σ, h, ρ, s, q⟩ => ?_
  refine tE_of s q fun d h1 v H1 ρ1 s1 k1 r1 q => ?_
  cases d with
  | lst xs =>
    have r0 := r1
    cases r1 with
    | @lst a _ vs l rr => exact ⟨a, rfl, .inl ⟨⟨vs, l.sq⟩, q _ _ _ s1 k1 (itR_list r0)⟩⟩
  | tup xs =>
    have r0 := r1
    cases r1 with
    | @tup a _ vs l rr => exact ⟨a, rfl, .inr ⟨⟨vs, l.sq⟩, q _ _ _ s1 k1 (itR_tup r0)⟩⟩
  | _ => exact False.elim q
theorem rngD_get : ∀ (n : Nat) (lo : Int) (i : Nat) (d : D), (rngD lo n)[i]? = some d → i < n ∧ d = .int (lo + i)
  | 0, _, _, _, e => by simp [rngD] at e
  | n + 1, lo, 0, d, e => by
    have e : some (D.int lo) = some d := e
    cases e
    exact ⟨Nat.succ_pos _, by simp⟩
  | n + 1, lo, i + 1, d, e => by
    have e : (rngD (lo + 1) n)[i]? = some d := by simpa [rngD] using e
    obtain ⟨h1, h2⟩ := rngD_get n (lo + 1) i d e
    refine ⟨Nat.succ_lt_succ h1, ?_⟩
    rw [h2]
    congr 1
    omega
theorem rngD_length : ∀ (n : Nat) (lo : Int), (rngD lo n).length = n
  | 0, _ => rfl
  | n + 1, lo => by simp [rngD, rngD_length n]
theorem itR_rng {K : PySem.W.Frag} {h : Hm} {ρ : List Addr} {H : Hp} {lo : Int} {n : Nat} : ItR K (Itr lo n) (rngD lo n) h ρ H := by
  intro h2 ρ2 H2 hr k
  refine ⟨fun i d e => ?_, by rw [rngD_length]; exact Nat.le_refl _⟩
  obtain ⟨e1, rfl⟩ := rngD_get n lo i d e
  refine ⟨e1, ?_⟩
  rintro x H3 ⟨rfl, rfl⟩
  exact ⟨hr, Kps.refl, .int _⟩
theorem smallI_ok {i : Int} (h : smallI i = true) : -(2 ^ 62) ≤ i ∧ i < 2 ^ 62 := by
  unfold smallI at h
  have h := of_decide_eq_true h
  omega
theorem smallI_mk {i : Int} (h1 : -1000000000 ≤ i) (h2 : i ≤ 1000000000) : smallI i = true := decide_eq_true (by omega)
theorem pi_rng1D {a : Expr} {p : Pos} {f : Sg → Hm → Res D} (hg : Gl X "range") (hm : X.mg "range" = none) (ha : PE X a (tE X.K f)) (ns : notStar a = true) :
    PI X tg (.Call (.Name "range" p) [a] [] pos) (tI X.K fun σ h => (f σ h).bind fun x h1 => match x with
    | .int j => .guard (smallI j) (.ok (rngD 0 j.toNat) h1)
    | _ => .stuck) := by
  refine PI.w (pi_range1 hg hm (pa_cons ha pa_nil (star_cons ns)) (star_cons ns)) fun σV H R ⟨σ, h, ρ, s, q⟩ => ?_
  refine tE_of s q fun d h1 v H1 ρ1 s1 k1 r1 q => ?_
  cases d with
  | int j =>
    obtain ⟨c, q⟩ := Res.wp_guard q
    obtain ⟨c1, c2⟩ := smallI_ok c
    exact ⟨j, by rw [rI_int r1], c1, c2, q _ _ _ s1 k1 itR_rng⟩
  | _ => exact False.elim q
theorem pi_rng2D {a b : Expr} {p : Pos} {f g : Sg → Hm → Res D} (hg : Gl X "range") (hm : X.mg "range" = none) (ha : PE X a (tE X.K f)) (hb : PE X b (tE X.K g)) (ns : notStar a = true) (ns2 : notStar b = true) :
    PI X tg (.Call (.Name "range" p) [a, b] [] pos) (tI X.K fun σ h => (f σ h).bind fun x h1 => (g σ h1).bind fun y h2 => match x, y with
    | .int i, .int j => .ok (rngD i (j - i).toNat) h2
    | _, _ => .stuck) := by
  refine PI.w (pi_rangeA hg hm (pa_cons ha (pa_cons hb pa_nil (star_cons ns2)) (star_cons ns)) (by rw [star_cons ns, star_cons ns2] <;> rfl) (star_cons ns2)) fun σV H R ⟨σ, h, ρ, s, q⟩ => ?_
  refine tE_of s q fun d h1 v H1 ρ1 s1 k1 r1 q => ?_
  refine tE_of s1 q fun e h2 w H2 ρ2 s2 k2 r2 q => ?_
  cases d with
  | int i =>
    cases e with
    | int j => exact ⟨i, j, by rw [rI_int r1, rI_int r2], q _ _ _ s2 (k1.trans k2) itR_rng⟩
    | _ => exact False.elim q
  | _ => exact False.elim q

/-! reversed, enumerate, zip -/
theorem itR_rev {K : PySem.W.Frag} {h : Hm} {ρ : List Addr} {H : Hp} {a : Addr} {xs : List D} {n : Nat} (hn : xs.length = n) (r : Rel K h ρ H (.lst xs) (.ref a)) : ItR K (Itv K a n) xs.reverse h ρ H := by
  intro h2 ρ2 H2 hr k
  have r2 := RD.mono k r
  cases r2 with
  | @lst _ _ vs l q =>
    refine ⟨fun i d e => ?_, by rw [List.length_reverse, hn]; exact Nat.le_refl _⟩
    have hi : i < xs.length := by
      have := (List.getElem?_eq_some_iff.mp e).1
      rwa [List.length_reverse] at this
    rw [List.getElem?_reverse hi, hn] at e
    obtain ⟨v, e1, e2⟩ := q.get e
    refine ⟨⟨by omega, vs, v, l.sq, e1⟩, ?_⟩
    rintro x H3 ⟨rfl, y⟩
    have e3 := y vs l.sq
    rw [e1] at e3
    cases e3
    exact ⟨hr, Kps.refl, e2⟩
theorem itR_revT {K : PySem.W.Frag} {h : Hm} {ρ : List Addr} {H : Hp} {a : Addr} {xs : List D} {n : Nat} (hn : xs.length = n) (r : Rel K h ρ H (.tup xs) (.ref a)) : ItR K (RT.ItvT K a n) xs.reverse h ρ H := by
  intro h2 ρ2 H2 hr k
  have r2 := RD.mono k r
  cases r2 with
  | @tup _ _ vs l q =>
    refine ⟨fun i d e => ?_, by rw [List.length_reverse, hn]; exact Nat.le_refl _⟩
    have hi : i < xs.length := by
      have := (List.getElem?_eq_some_iff.mp e).1
      rwa [List.length_reverse] at this
    rw [List.getElem?_reverse hi, hn] at e
    obtain ⟨v, e1, e2⟩ := q.get e
    refine ⟨⟨by omega, vs, v, l.sq, e1⟩, ?_⟩
    rintro x H3 ⟨rfl, y⟩
    have e3 := y vs l.sq
    rw [e1] at e3
    cases e3
    exact ⟨hr, Kps.refl, e2⟩
theorem pi_rvsD {l : Expr} {p : Pos} {f : Sg → Hm → Res D} (hg : Gl X "reversed") (hm : X.mg "reversed" = none) (hl : PE X l (tE X.K f)) (ns : notStar l = true) : PI X tg (.Call (.Name "reversed" p) [l] [] pos) (tI X.K fun σ h => (f σ h).bind fun x h1 => (itD x h1).bind fun xs h2 => .ok xs.reverse h2) := by
  refine PI.w (RT.pi_revA hg hm hl (star_cons ns)) fun σV H R ⟨σ, h, ρ, s, q⟩ => ?_
  refine tE_of s q fun d h1 v H1 ρ1 s1 k1 r1 q => ?_
  cases d with
  | lst xs =>
    have r0 := r1
    cases r1 with
    | @lst a _ vs l rr => exact ⟨a, vs, rfl, .inl ⟨l.sq, q _ _ _ s1 k1 (itR_rev rr.length r0)⟩⟩
  | tup xs =>
    have r0 := r1
    cases r1 with
    | @tup a _ vs l rr => exact ⟨a, vs, rfl, .inr ⟨l.sq, q _ _ _ s1 k1 (itR_revT rr.length r0)⟩⟩
  | _ => exact False.elim q
theorem enumD_get : ∀ (xs : List D) (k i : Nat) (d : D), (enumD k xs)[i]? = some d → ∃ x, xs[i]? = some x ∧ d = .wtup [.int (k + i : Nat), x]
  | [], _, _, _, e => by simp [enumD] at e
  | x :: xs, k, 0, d, e => by
    have e : some (D.wtup [.int k, x]) = some d := e
    cases e
    exact ⟨x, rfl, rfl⟩
  | x :: xs, k, i + 1, d, e => by
    have e : (enumD (k + 1) xs)[i]? = some d := by simpa [enumD] using e
    obtain ⟨y, h1, h2⟩ := enumD_get xs (k + 1) i d e
    refine ⟨y, by simpa using h1, ?_⟩
    rw [h2]
    congr 3
    omega
theorem enumD_length : ∀ (xs : List D) (k : Nat), (enumD k xs).length = xs.length
  | [], _ => rfl
  | x :: xs, k => by simp [enumD, enumD_length xs]
theorem itR_enum {K : PySem.W.Frag} {h : Hm} {ρ : List Addr} {H : Hp} {a : Addr} {xs : List D} (r : Rel K h ρ H (.lst xs) (.ref a)) : ItR K (Ite K a) (enumD 0 xs) h ρ H := by
  intro h2 ρ2 H2 hr k
  have r2 := RD.mono k r
  cases r2 with
  | @lst _ _ vs l q =>
    refine ⟨fun i d e => ?_, vs, l.sq, by rw [enumD_length, q.length]; exact Nat.le_refl _⟩
    obtain ⟨y, ey, rfl⟩ := enumD_get _ _ _ _ e
    obtain ⟨v, e1, e2⟩ := q.get ey
    refine ⟨⟨vs, v, l.sq, e1⟩, ?_⟩
    rintro x H3 ⟨T, z, rfl, hT, rfl, y3⟩
    have e3 := y3 vs l.sq
    rw [e1] at e3
    cases e3
    refine ⟨hr.new hT, Kp.new hr hT, Rel.newW hr hT (.cons ?_ (.cons e2 .nil))⟩
    rw [Nat.zero_add]
    exact .int _
theorem pi_enmD {l : Expr} {p tpos : Pos} {elts : List Expr} {kk : Nat} {f : Sg → Hm → Res D} (hg : Gl X "enumerate") (hm : X.mg "enumerate" = none) (hl : PE X l (tE X.K f)) (ns : notStar l = true) : PI X (.Tuple elts kk tpos) (.Call (.Name "enumerate" p) [l] [] pos) (tI X.K fun σ h => (f σ h).bind fun x h1 => match x with
    | .lst xs => .ok (enumD 0 xs) h1
    | _ => .stuck) := by
  refine PI.w (pi_enum hg hm (pa_cons hl pa_nil (star_cons ns)) (star_cons ns)) fun σV H R ⟨σ, h, ρ, s, q⟩ => ?_
  refine tE_of s q fun d h1 v H1 ρ1 s1 k1 r1 q => ?_
  cases d with
  | lst xs =>
    have r0 := r1
    cases r1 with
    | @lst a _ vs l rr => exact ⟨a, vs, rfl, l.sq, q _ _ _ s1 k1 (itR_enum r0)⟩
  | _ => exact False.elim q
theorem zipD_get : ∀ (xs ys : List D) (i : Nat) (d : D), (zipD xs ys)[i]? = some d → ∃ x y, xs[i]? = some x ∧ ys[i]? = some y ∧ d = .wtup [x, y]
  | [], _, _, _, e => by simp [zipD] at e
  | _ :: _, [], _, _, e => by simp [zipD] at e
  | x :: xs, y :: ys, 0, d, e => by
    have e : some (D.wtup [x, y]) = some d := e
    cases e
    exact ⟨x, y, rfl, rfl, rfl⟩
  | x :: xs, y :: ys, i + 1, d, e => by
    have e : (zipD xs ys)[i]? = some d := by simpa [zipD] using e
    obtain ⟨a, b, h1, h2, h3⟩ := zipD_get xs ys i d e
    exact ⟨a, b, by simpa using h1, by simpa using h2, h3⟩
theorem zipD_length : ∀ (xs ys : List D), xs.length ≤ (zipD xs ys).length ∨ ys.length ≤ (zipD xs ys).length
  | [], _ => .inl (Nat.zero_le _)
  | _ :: _, [] => .inr (Nat.zero_le _)
  | x :: xs, y :: ys => by
    rcases zipD_length xs ys with h | h
    · exact .inl (by simp [zipD]; exact h)
    · exact .inr (by simp [zipD]; exact h)
theorem itR_zip {K : PySem.W.Frag} {h : Hm} {ρ : List Addr} {H : Hp} {a b : Addr} {xs ys : List D} (r : Rel K h ρ H (.lst xs) (.ref a)) (rb : Rel K h ρ H (.lst ys) (.ref b)) : ItR K (Itz K a b) (zipD xs ys) h ρ H := by
  intro h2 ρ2 H2 hr k
  have r2 := RD.mono k r
  have rb2 := RD.mono k rb
  cases r2 with
  | @lst _ _ vs l q =>
    cases rb2 with
    | @lst _ _ ws l2 q2 =>
      refine ⟨fun i d e => ?_, vs, ws, l.sq, l2.sq, by rw [← q.length, ← q2.length]; exact zipD_length xs ys⟩
      obtain ⟨x, y, ex, ey, rfl⟩ := zipD_get _ _ _ _ e
      obtain ⟨v, e1, e2⟩ := q.get ex
      obtain ⟨w, f1, f2⟩ := q2.get ey
      refine ⟨⟨vs, ws, v, w, l.sq, l2.sq, e1, f1⟩, ?_⟩
      rintro x H3 ⟨T, z, z2, rfl, hT, rfl, y3, y4⟩
      have e3 := y3 vs l.sq
      have e4 := y4 ws l2.sq
      rw [e1] at e3
      rw [f1] at e4
      cases e3
      cases e4
      exact ⟨hr.new hT, Kp.new hr hT, Rel.newW hr hT (.cons e2 (.cons f2 .nil))⟩
theorem itR_zipT {K : PySem.W.Frag} {h : Hm} {ρ : List Addr} {H : Hp} {a b : Addr} {xs ys : List D} (r : Rel K h ρ H (.tup xs) (.ref a)) (rb : Rel K h ρ H (.tup ys) (.ref b)) : ItR K (RZ.ItzT K a b) (zipD xs ys) h ρ H := by
  intro h2 ρ2 H2 hr k
  have r2 := RD.mono k r
  have rb2 := RD.mono k rb
  cases r2 with
  | @tup _ _ vs l q =>
    cases rb2 with
    | @tup _ _ ws l2 q2 =>
      refine ⟨fun i d e => ?_, vs, ws, l.sq, l2.sq, by rw [← q.length, ← q2.length]; exact zipD_length xs ys⟩
      obtain ⟨x, y, ex, ey, rfl⟩ := zipD_get _ _ _ _ e
      obtain ⟨v, e1, e2⟩ := q.get ex
      obtain ⟨w, f1, f2⟩ := q2.get ey
      refine ⟨⟨vs, ws, v, w, l.sq, l2.sq, e1, f1⟩, ?_⟩
      rintro x H3 ⟨T, z, z2, rfl, hT, rfl, y3, y4⟩
      have e3 := y3 vs l.sq
      have e4 := y4 ws l2.sq
      rw [e1] at e3
      rw [f1] at e4
      cases e3
      cases e4
      exact ⟨hr.new hT, Kp.new hr hT, Rel.newW hr hT (.cons e2 (.cons f2 .nil))⟩
theorem pi_zpD {l l2 : Expr} {p tpos : Pos} {elts : List Expr} {kk : Nat} {f g : Sg → Hm → Res D} (hg : Gl X "zip") (hm : X.mg "zip" = none) (hl : PE X l (tE X.K f)) (hl2 : PE X l2 (tE X.K g)) (ns : notStar l = true) (ns2 : notStar l2 = true) : PI X (.Tuple elts kk tpos) (.Call (.Name "zip" p) [l, l2] [] pos) (tI X.K fun σ h => (f σ h).bind fun x h1 => (g σ h1).bind fun y h2 => match x, y with
    | .lst xs, .lst ys => .ok (zipD xs ys) h2
    | .tup xs, .tup ys => .ok (zipD xs ys) h2
    | _, _ => .stuck) := by
  refine PI.w (RZ.pi_zipA hg hm (pa_cons hl (pa_cons hl2 pa_nil (star_cons ns2)) (star_cons ns)) (star_cons ns) (by rw [star_cons ns2] <;> rfl)) fun σV H R ⟨σ, h, ρ, s, q⟩ => ?_
  refine tE_of s q fun d h1 v H1 ρ1 s1 k1 r1 q => ?_
  refine tE_of s1 q fun d2 h2 v2 H2 ρ2 s2 k2 r2 q => ?_
  have r1 := r1.mono k2
  cases d with
  | lst xs =>
    cases d2 with
    | lst ys =>
      have r0 := r1
      have r00 := r2
      cases r1 with
      | @lst a _ vs l rr =>
        cases r2 with
        | @lst b _ ws l2 rr2 => exact ⟨a, b, vs, ws, rfl, .inl ⟨l.sq, l2.sq, q _ _ _ s2 (k1.trans k2) (itR_zip r0 r00)⟩⟩
    | _ => exact False.elim q
  | tup xs =>
    cases d2 with
    | tup ys =>
      have r0 := r1
      have r00 := r2
      cases r1 with
      | @tup a _ vs l rr =>
        cases r2 with
        | @tup b _ ws l2 rr2 => exact ⟨a, b, vs, ws, rfl, .inr ⟨l.sq, l2.sq, q _ _ _ s2 (k1.trans k2) (itR_zipT r0 r00)⟩⟩
    | _ => exact False.elim q
  | _ => exact False.elim q

theorem itR_enumT {K : PySem.W.Frag} {h : Hm} {ρ : List Addr} {H : Hp} {a : Addr} {xs : List D} (r : Rel K h ρ H (.tup xs) (.ref a)) : ItR K (IteT K a) (enumD 0 xs) h ρ H := by
  intro h2 ρ2 H2 hr k
  have r2 := RD.mono k r
  cases r2 with
  | @tup _ _ vs l q =>
    refine ⟨fun i d e => ?_, vs, l.sq, by rw [enumD_length, q.length]⟩
    obtain ⟨y, ey, rfl⟩ := enumD_get _ _ _ _ e
    obtain ⟨v, e1, e2⟩ := q.get ey
    refine ⟨⟨vs, v, l.sq, e1⟩, ?_⟩
    rintro x H3 ⟨T, z, rfl, hT, rfl, y3⟩
    have e3 := y3 vs l.sq
    rw [e1] at e3
    cases e3
    refine ⟨hr.new hT, Kp.new hr hT, Rel.newW hr hT (.cons ?_ (.cons e2 .nil))⟩
    rw [Nat.zero_add]
    exact .int _
theorem pi_enmTD {l : Expr} {p tpos : Pos} {elts : List Expr} {kk : Nat} {f : Sg → Hm → Res D} (hg : Gl X "enumerate") (hm : X.mg "enumerate" = none) (hl : PE X l (tE X.K f)) (ns : notStar l = true) : PI X (.Tuple elts kk tpos) (.Call (.Name "enumerate" p) [l] [] pos) (tI X.K fun σ h => (f σ h).bind fun x h1 => match x with
    | .tup xs => .ok (enumD 0 xs) h1
    | _ => .stuck) := by
  refine PI.w (pi_enumT hg hm (pa_cons hl pa_nil (star_cons ns)) (star_cons ns)) fun σV H R ⟨σ, h, ρ, s, q⟩ => ?_
  refine tE_of s q fun d h1 v H1 ρ1 s1 k1 r1 q => ?_
  cases d with
  | tup xs =>
    have r0 := r1
    cases r1 with
    | @tup a _ vs l rr => exact ⟨a, vs, rfl, l.sq, q _ _ _ s1 k1 (itR_enumT r0)⟩
  | _ => exact False.elim q
theorem itR_str {K : PySem.W.Frag} {h : Hm} {ρ : List Addr} {H : Hp} {x : Str} : ItR K (Its x) (signsD x) h ρ H := by
  intro h2 ρ2 H2 hr k
  unfold signsD
  refine ⟨fun i d e => ?_, ?_⟩
  · rw [List.getElem?_map] at e
    cases c : x.cps.toList[i]? with
    | none => rw [c] at e; cases e
    | some n =>
      rw [c] at e
      cases e
      have hn : x.cps[i]? = some n := by rw [← Array.getElem?_toList]; exact c
      have hi := (Array.getElem?_eq_some_iff.mp hn).1
      refine ⟨hi, ?_⟩
      rintro y H3 ⟨rfl, m, hm, rfl⟩
      rw [hn] at hm
      cases hm
      exact ⟨hr, Kps.refl, .str _⟩
  · show x.cps.size ≤ _
    rw [List.length_map, Array.length_toList]
    exact Nat.le_refl _
theorem pi_sgnD {l : Expr} {f : Sg → Hm → Res D} (hl : PE X l (tE X.K f)) : PI X tg l (tI X.K fun σ h => (f σ h).bind itSD) := by
  refine PI.w (pi_str hl) fun σV H R ⟨σ, h, ρ, s, q⟩ => ?_
  refine tE_of s q fun d h1 v H1 ρ1 s1 k1 r1 q => ?_
  cases d with
  | str x => exact ⟨x, rI_str r1, q _ _ _ s1 k1 itR_str⟩
  | _ => exact False.elim q

/-! ### len(set(t)), list(range(..)), dicts, defs as values -/
theorem keys_rel {K : PySem.W.Frag} {h : Hm} {ρ : List Addr} {H : Hp} : ∀ {xs : List D} {ks : List Key} {vs : List V}, keysOf xs = some ks → Rels K h ρ H xs vs → vs = ks.map kV
  | [], _, _, e, r => by cases e; cases r; rfl
  | x :: xs, ks, _, e, r => by
    cases r with
    | @cons d v ds vs a b =>
      unfold keysOf at e
      cases k1 : keyOf x with
      | none => rw [k1] at e; cases e
      | some k =>
        cases k2 : keysOf xs with
        | none => rw [k1, k2] at e; cases e
        | some ks2 =>
          rw [k1, k2] at e
          cases e
          rw [keys_rel k2 b, List.map_cons]
          congr 1
          cases x <;> first | cases k1 | skip
          · exact rI_int a
          · exact rI_str a
theorem pe_lensetD {a : Expr} {f : Sg → Hm → Res D} {p p2 q : Pos} (hc : X.calm = true) (hg : Gl X "len") (hm : X.mg "len" = none) (hg2 : Gl X "set") (hm2 : X.mg "set" = none) (ha : PE X a (tE X.K f)) (ns : notStar a = true) :
    PE X (.Call (.Name "len" p) [.Call (.Name "set" p2) [a] [] q] [] pos) (tE X.K fun σ h => (f σ h).bind lensetD) := by
  refine PE.w (pe_lenSetK hc hg hm hg2 hm2 ha (star_cons ns)) fun σV H Q ⟨σ, h, ρ, s, q⟩ => ?_
  refine tE_of s q fun d h1 v H1 ρ1 s1 k1 r1 q => ?_
  cases d with
  | tup xs =>
    cases r1 with
    | @tup a _ vs l rr =>
      have q : (match keysOf xs with
        | some ks => Res.guard (decide (ks.length ≤ 1000)) (.ok (D.int (distS ks)) h1)
        | none => .stuck).wp _ := q
      cases e : keysOf xs with
      | none => rw [e] at q; exact False.elim q
      | some ks =>
        rw [e] at q
        obtain ⟨c, q⟩ := Res.wp_guard q
        have ev := keys_rel e rr
        subst ev
        exact ⟨a, ks, rfl, l.sq, by have := of_decide_eq_true c; unfold scanBound; omega, q _ _ _ s1 k1 (.int _)⟩
  | _ => exact False.elim q
theorem pe_sortsetD {a : Expr} {f : Sg → Hm → Res D} {p p2 q : Pos} (hc : X.calm = true) (hg : Gl X "sorted") (hm : X.mg "sorted" = none) (hg2 : Gl X "set") (hm2 : X.mg "set" = none) (ha : PE X a (tE X.K f)) (ns : notStar a = true) :
    PE X (.Call (.Name "sorted" p) [.Call (.Name "set" p2) [a] [] q] [] pos) (tE X.K fun σ h => (f σ h).bind sortsetD) := by
  refine PE.w (pe_sortSet hc hg hm hg2 hm2 ha (star_cons ns)) fun σV H Q ⟨σ, h, ρ, s, q⟩ => ?_
  refine tE_of s q fun d h1 v H1 ρ1 s1 k1 r1 q => ?_
  have q : (match (lstOf h1 d).bind intsOf with
    | some ns => Res.guard (decide (ns.length ≤ 1000) && decide ((sortU ns).length < 64)) (Res.ok (D.lst ((sortU ns).map D.int)) h1)
    | none => Res.stuck).wp (fun d h' => ∀ v H' ρ', SR X.K σ h' ρ' σV H' → Kp h ρ H h' ρ' H' → Rel X.K h' ρ' H' d v → Q v H') := q
  cases e : (lstOf h1 d).bind intsOf with
  | none => rw [e] at q; exact False.elim q
  | some ns =>
    rw [e] at q
    obtain ⟨c, q⟩ := Res.wp_guard q
    obtain ⟨c1, c2⟩ := Bool.and_eq_true_iff.mp c
    cases e2 : lstOf h1 d with
    | none => rw [e2] at e; cases e
    | some ys =>
      rw [e2] at e
      obtain ⟨a, vs, rfl, sq, rr⟩ := Rel.lstv0 s1.hp r1 e2
      have ev := ints_rel (show intsOf ys = some ns from e) rr
      subst ev
      refine ⟨a, ns, rfl, sq, by have := of_decide_eq_true c1; unfold scanBound; omega, of_decide_eq_true c2, fun p hp => q _ _ _ (s1.new hp) (k1.trans (Kp.new s1.hp hp)) (Rel.newL s1.hp hp ?_)⟩
      generalize sortU ns = ms
      induction ms with
      | nil => exact .nil
      | cons m ms ih => exact .cons (.int m) ih
theorem rg_ok {i j : Int} (h : rgOkB i j = true) : RgOk i j := by
  unfold rgOkB at h
  rw [Bool.and_eq_true, Bool.and_eq_true] at h
  obtain ⟨c1, c2⟩ := smallI_ok h.1.1
  obtain ⟨c3, c4⟩ := smallI_ok h.1.2
  exact ⟨c1, c2, c3, c4, of_decide_eq_true h.2⟩
theorem rg_rel {K : PySem.W.Frag} {h : Hm} {ρ : List Addr} {H : Hp} : ∀ (n : Nat) (i : Int), Rels K h ρ H (rngD i n) ((List.range n).map fun k => V.int (i + (k : Nat)))
  | 0, i => .nil
  | n + 1, i => by
    rw [List.range_succ_eq_map, List.map_cons, List.map_map]
    refine .cons ?_ ?_
    · have e : (i + ((0 : Nat) : Int)) = i := by omega
      rw [e]
      exact .int i
    · have z := rg_rel (K := K) (h := h) (ρ := ρ) (H := H) n (i + 1)
      have e : ((fun k => V.int (i + (k : Nat))) ∘ Nat.succ) = fun k : Nat => V.int (i + 1 + (k : Nat)) := by
        funext k
        show V.int _ = V.int _
        congr 1
        omega
      rw [e]
      exact z
theorem pe_rngsD {a b : Expr} {f g : Sg → Hm → Res D} {l : Bool} {x : Str} {p p2 q : Pos} (hx : x = if l = true then ("list" : Str) else ("tuple" : Str)) (hc : X.calm = true) (hg : Gl X x) (hm : X.mg x = none) (hg2 : Gl X "range") (hm2 : X.mg "range" = none) (ha : PE X a (tE X.K f)) (hb : PE X b (tE X.K g)) (ns : notStar a = true) (ns2 : notStar b = true) :
    PE X (.Call (.Name x p) [.Call (.Name "range" p2) [a, b] [] q] [] pos) (tE X.K fun σ h => (f σ h).bind fun x h1 => (g σ h1).bind fun y h2 => rngsD l x y h2) := by
  have rg := prg_2 (p := p2) (pos := q) hg2 hm2 ha hb (star_cons ns) (star_cons ns2) (by rw [star_cons ns2] <;> rfl)
  cases l with
  | true =>
    subst hx
    refine PE.w (pe_listRg hc hg hm rg (by rfl)) fun σV H Q ⟨σ, h, ρ, s, q⟩ => ?_
    refine tE_of s q fun d h1 v H1 ρ1 s1 k1 r1 q => ?_
    refine tE_of s1 q fun e h2 w H2 ρ2 s2 k2 r2 q => ?_
    cases d <;> cases e <;> first | exact False.elim q | skip
    obtain ⟨c, q⟩ := Res.wp_guard q
    exact ⟨_, _, rI_int r1, rI_int r2, rg_ok c, fun z hz => q _ _ _ (s2.new hz) ((k1.trans k2).trans (Kp.new s2.hp hz)) (Rel.newL s2.hp hz (rg_rel _ _))⟩
  | false =>
    subst hx
    refine PE.w (pe_tupRgF hc hg hm rg (by rfl)) fun σV H Q ⟨σ, h, ρ, s, q⟩ => ?_
    refine tE_of s q fun d h1 v H1 ρ1 s1 k1 r1 q => ?_
    refine tE_of s1 q fun e h2 w H2 ρ2 s2 k2 r2 q => ?_
    cases d <;> cases e <;> first | exact False.elim q | skip
    obtain ⟨c, q⟩ := Res.wp_guard q
    exact ⟨_, _, rI_int r1, rI_int r2, rg_ok c, fun z o hz ho => q _ _ _ (s2.new hz) ((k1.trans k2).trans (Kp.new s2.hp hz)) (Rel.newT s2.hp hz ho (rg_rel _ _))⟩
theorem pe_rngMD {a : Expr} {f : Sg → Hm → Res D} {p p2 q : Pos} (hc : X.calm = true) (hg : Gl X "list") (hm : X.mg "list" = none) (hg2 : Gl X "range") (hm2 : X.mg "range" = none) (ha : PE X a (tE X.K f)) (ns : notStar a = true) :
    PE X (.Call (.Name "list" p) [.Call (.Name "range" p2) [a] [] q] [] pos) (tE X.K fun σ h => (f σ h).bind rngMD) := by
  have rg := prg_1 (p := p2) (pos := q) hg2 hm2 ha (star_cons ns)
  refine PE.w (pe_listRg hc hg hm rg (by rfl)) fun σV H Q ⟨σ, h, ρ, s, q⟩ => ?_
  refine tE_of s q fun d h1 v H1 ρ1 s1 k1 r1 q => ?_
  cases d <;> first | exact False.elim q | skip
  rename_i j
  obtain ⟨c, q⟩ := Res.wp_guard q
  refine ⟨_, rI_int r1, rg_ok c, fun z hz => ?_⟩
  have rr : Rels X.K h1 ρ1 H1 (rngD 0 j.toNat) (rgV 0 j) := by
    have z := rg_rel (K := X.K) (h := h1) (ρ := ρ1) (H := H1) (j - 0).toNat 0
    rw [show (j - 0).toNat = j.toNat by omega] at z
    unfold rgV
    rw [show (j - 0).toNat = j.toNat by omega]
    exact z
  have kp := Kp.push (xs := rngD 0 j.toNat) (vs := rgV 0 j) s1.hp hz
  exact q _ _ _ (s1.of (s1.hp.push hz rr) kp) (k1.trans kp) (.ref (by rw [← s1.hp.len, List.getElem?_append_right (Nat.le_refl _), Nat.sub_self]; rfl))
/-! a dict of texts and numbers, as it is written -/
def dctK : List (Str × Int) → List (Option Expr) → List Expr → Prop
  | [], [], [] => True
  | (x, i) :: r, k :: ks, v :: vs => (∃ c1 p1 c2 p2, k = some (.Constant (.str x) c1 p1) ∧ v = .Constant (.int i) c2 p2) ∧ dctK r ks vs
  | _, _, _ => False
theorem dct_pps : ∀ {kvs : List (Str × Int)} {ks : List (Option Expr)} {vs : List Expr}, dctK kvs ks vs → PPs X pos ks vs (kvs.map fun p => (tC (.str p.1), tC (.int p.2))) ∧ ks.all (·.isSome) = true ∧ ks.length = kvs.length ∧ vs.length = kvs.length
  | [], [], [], _ => ⟨pps_nil, rfl, rfl, rfl⟩
  | (x, i) :: r, k :: ks, v :: vs, h => by
    obtain ⟨⟨c1, p1, c2, p2, rfl, rfl⟩, h⟩ := h
    obtain ⟨a, b, c, d⟩ := dct_pps h
    exact ⟨pps_cons pe_str pe_int a, by rw [List.all_cons, b] <;> rfl, by simp [c], by simp [d]⟩
theorem dct_pairs {σ : L2.St} {H : Hp} {Q : List (V × V) → Hp → Prop} : ∀ (kvs : List (Str × Int)), Q (kvs.map fun p => (V.str p.1, V.int p.2)) H → tPairs (kvs.map fun p => (tC (V.str p.1), tC (V.int p.2))) σ H Q := by
  intro kvs
  induction kvs generalizing Q with
  | nil => exact fun q => q
  | cons p r ih => exact fun q => ih q
theorem merge_new : ∀ (more acc : List (Key × V)), ((acc ++ more).map (·.1)).Nodup → mergeK acc more = acc ++ more
  | [], acc, _ => by rw [List.append_nil]; rfl
  | p :: r, acc, nd => by
    have e : putK acc p.1 p.2 = acc ++ [p] := by
      refine putK_new p.2 ?_
      cases k : valV acc p.1 with
      | none => rfl
      | some v =>
        exfalso
        have z := valV_any p.1 acc
        rw [k] at z
        obtain ⟨y, hy, e⟩ := List.any_eq_true.mp z
        have e := of_decide_eq_true e
        rw [List.map_append, List.map_cons, List.nodup_append] at nd
        exact nd.2.2 _ (List.mem_map.mpr ⟨y, hy, rfl⟩) _ List.mem_cons_self e
    show mergeK (putK acc p.1 p.2) r = _
    rw [e, merge_new r (acc ++ [p]) (by rw [List.append_assoc]; exact nd), List.append_assoc] <;> rfl
theorem kz_map : ∀ kvs : List (Str × Int), (kvs.map fun p => ((.inr p.1 : Key), V.int p.2)) = kz (kvs.map (·.1)) (kvs.map fun p => V.int p.2)
  | [] => rfl
  | p :: r => by rw [List.map_cons, kz_map r]; rfl
theorem dct_rel {K : PySem.W.Frag} {h : Hm} {ρ : List Addr} {H : Hp} : ∀ kvs : List (Str × Int), Rels K h ρ H (kvs.map fun p => D.int p.2) (kvs.map fun p => V.int p.2)
  | [] => .nil
  | p :: r => .cons (.int _) (dct_rel r)
theorem pe_dctD {kvs : List (Str × Int)} {ks : List (Option Expr)} {vs : List Expr} (hk : dctK kvs ks vs) (h0 : kvs ≠ []) (h15 : kvs.length ≤ 15) (nd : (kvs.map (·.1)).Nodup) : PE X (.Dict ks vs pos) (tE X.K fun _ h => .ok (.dict (kvs.map (·.1)) (kvs.map fun p => .int p.2)) h) := by
  obtain ⟨a, b, c, d⟩ := dct_pps (X := X) (pos := pos) hk
  refine PE.w (pe_disp a b (by rw [c, d]) (by intro z; rw [z] at c; exact h0 (List.length_eq_zero_iff.mp c.symm)) (by rw [c]; exact h15)) fun σV H Q ⟨σ, h, ρ, s, q⟩ => ?_
  intro p hp
  refine dct_pairs kvs ⟨upd_same, kvs.map fun p => (.inr p.1, .int p.2), by rw [List.map_map]; rfl, by rw [List.length_map]; exact h15, ?_⟩
  have em : mergeK [] (kvs.map fun p => ((.inr p.1 : Key), V.int p.2)) = kz (kvs.map (·.1)) (kvs.map fun p => V.int p.2) := by
    rw [merge_new _ []]
    · rw [List.nil_append, kz_map]
    · rw [List.nil_append, List.map_map]
      have : ((fun x : Key × V => x.1) ∘ fun p : Str × Int => ((.inr p.1 : Key), V.int p.2)) = Sum.inr ∘ fun p : Str × Int => p.1 := rfl
      rw [this, ← List.map_map]
      exact nd.map _ (fun x y hxy e => hxy (Sum.inr.inj e))
  rw [em, L2.upd_upd]
  have s2 := s.new (o := .dK (kz (kvs.map (·.1)) (kvs.map fun p => V.int p.2))) hp
  exact q _ _ _ s2 (Kp.new s.hp hp) (.dict ⟨.inl upd_same, s.hp.fresh hp, by rw [List.length_map, List.length_map]⟩ (dct_rel kvs))
theorem m2_of {o e f : Expr} {m : Str} {apos cpos : Pos} (hb : notCall o = true) (hl : (apos.endLine == cpos.line) = true) (ns : notStar e = true) (ns2 : notStar f = true) : M2 X o m apos e f cpos := by
  refine ⟨base_plain' hb, ?_, hl, ?_⟩
  · rw [stars_all (show noStars [e, f] = true by unfold noStars; rw [List.all_cons, List.all_cons, ns, ns2] <;> rfl)]
    rfl
  · rw [star_cons ns, star_cons ns2] <;> rfl
theorem dicOf_eq {h : Hm} {n : Nat} {kd : List Str × List D} (e : dicOf? h n = some kd) : h[n]? = some (.dic kd.1 kd.2) := by
  unfold dicOf? at e
  split at e
  · rename_i ks ds q
    cases e
    exact q
  · cases e
theorem look_getR {K : PySem.W.Frag} {h : Hm} {ρ : List Addr} {H : Hp} {x : Str} {a : Addr} {ks : List Str} {ds : List D} {vs : List V} (l : Rd H a (.dK (kz ks vs))) (l2 : ks.length = vs.length) (r : Rels K h ρ H ds vs) : ∃ o, DGet H a (.str x) o ∧ o.isSome = (lookD ks ds x).isSome ∧
    ∀ d, lookD ks ds x = some d → ∃ v, o = some v ∧ Rel K h ρ H d v := by
  refine ⟨valV (kz ks vs) (.inr x), .inl ⟨_, .inr x, l, rfl, rfl⟩, ?_⟩
  have z := look_rel (x := x) r l2
  cases q : lookD ks ds x with
  | none =>
    rw [q] at z
    dsimp only at z
    rw [z]
    exact ⟨rfl, fun d e => by cases e⟩
  | some d =>
    rw [q] at z
    obtain ⟨v, e, rv⟩ := z
    rw [e]
    exact ⟨rfl, fun d' e => by cases e; exact ⟨v, rfl, rv⟩⟩
theorem pe_dctMD : PE X (.Dict [] [] pos) (tE X.K fun _ h => .ok (.ref h.length) (h ++ [.dic [] []])) := by
  refine PE.w pe_dnewK fun σV H Q ⟨σ, h, ρ, s, q⟩ => ?_
  intro p hp
  have kp : Kp h ρ H (h ++ [.dic [] []]) (ρ ++ [p]) (upd H p (.dK [])) := Kp.pushO s.hp hp
  exact q _ _ _ (s.of (s.hp.pushD hp) kp) kp (.ref (by rw [← s.hp.len, List.getElem?_append_right (Nat.le_refl _), Nat.sub_self]; rfl))
/-- what is found, by texts -/
theorem got_rel {K : PySem.W.Frag} {h : Hm} {ρ : List Addr} {H : Hp} {ks : List Str} {ds : List D} {x : Str} {o : Option V} {d3 : D} {w3 : V} (e1 : o.isSome = (lookD ks ds x).isSome) (e2 : ∀ d, lookD ks ds x = some d → ∃ v, o = some v ∧ Rel K h ρ H d v) (r3 : Rel K h ρ H d3 w3) : Rel K h ρ H ((lookD ks ds x).getD d3) (o.getD w3) := by
  cases e : lookD ks ds x with
  | none =>
    rw [e] at e1
    cases o with
    | none => exact r3
    | some _ => cases e1
  | some d4 =>
    obtain ⟨v4, e4, rv⟩ := e2 d4 e
    rw [e4]
    exact rv
theorem pe_dgetD {o e f : Expr} {apos cpos : Pos} {fo fe ff : Sg → Hm → Res D} (hu : X.A.units + 64 < cLine) (ho : PE X o (tE X.K fo)) (he : PE X e (tE X.K fe)) (hf : PE X f (tE X.K ff)) (hb : notCall o = true) (hl : (apos.endLine == cpos.line) = true) (ns : notStar e = true) (ns2 : notStar f = true) :
    PE X (.Call (.Attribute o "get" apos) [e, f] [] cpos) (tE X.K fun σ h => (fo σ h).bind fun x h1 => .guard (isDictD h1 x) ((fe σ h1).bind fun y h2 => (ff σ h2).bind fun z h3 => dgetD x y z h3)) := by
  refine PE.w (pe_dget2 (by omega) ho he hf (m2_of hb hl ns ns2)) fun σV H Q ⟨σ, h, ρ, s, q⟩ => ?_
  refine tE_of s q fun d h1 v H1 ρ1 s1 k1 r1 q => ?_
  obtain ⟨c, q⟩ := Res.wp_guard q
  cases d with
  | dict ks ds =>
    have r0 := r1
    cases r1 with
    | @dict a _ _ vs l rr =>
      refine ⟨a, rfl, .inl ⟨_, l.1⟩, ?_⟩
      refine tE_of s1 q fun d2 h2 w H2 ρ2 s2 k2 r2 q => ?_
      refine tE_of s2 q fun d3 h3 w3 H3 ρ3 s3 k3 r3 q => ?_
      obtain ⟨z, rfl⟩ : ∃ z, d2 = .str z := by cases d2 <;> first | exact ⟨_, rfl⟩ | exact False.elim q
      have r4 := r0.mono (k2.trans k3)
      cases r4 with
      | @dict _ _ _ vs' l' rr' =>
        obtain ⟨o, g, e1, e2⟩ := look_getR (x := z) l'.1 l'.2.2 rr'
        rw [rI_str r2]
        exact ⟨o, g, q _ _ _ s3 ((k1.trans k2).trans k3) (got_rel e1 e2 r3)⟩
  | ref n =>
    have r0 := r1
    cases r1 with
    | @ref _ a ea =>
      have c : (dicOf? h1 n).isSome = true := c
      cases e0 : dicOf? h1 n with
      | none => rw [e0] at c; cases c
      | some kd =>
        obtain ⟨vs, b1, b2, b3⟩ := s1.hp.obj n _ a (dicOf_eq e0) ea
        refine ⟨a, rfl, .inl ⟨_, .inl b1⟩, ?_⟩
        refine tE_of s1 q fun d2 h2 w H2 ρ2 s2 k2 r2 q => ?_
        refine tE_of s2 q fun d3 h3 w3 H3 ρ3 s3 k3 r3 q => ?_
        obtain ⟨z, rfl⟩ : ∃ z, d2 = .str z := by cases d2 <;> first | exact ⟨_, rfl⟩ | exact False.elim q
        have r4 := r0.mono (k2.trans k3)
        cases r4 with
        | @ref _ _ ea3 =>
          have q : (match dicOf? h3 n with
            | some kd => Res.ok ((lookD kd.1 kd.2 z).getD d3) h3
            | none => .stuck).wp _ := q
          cases e3 : dicOf? h3 n with
          | none => rw [e3] at q; exact False.elim q
          | some kd3 =>
            rw [e3] at q
            obtain ⟨vs3, c1, c2, c3⟩ := s3.hp.obj n _ a (dicOf_eq e3) ea3
            obtain ⟨o, g, e1, e2⟩ := look_getR (x := z) (.inl c1) c3 c2
            rw [rI_str r2]
            exact ⟨o, g, q _ _ _ s3 ((k1.trans k2).trans k3) (got_rel e1 e2 r3)⟩
  | _ => exact Bool.noConfusion c
theorem pe_dixD {o e : Expr} {fo fe : Sg → Hm → Res D} (hu : X.A.units + 64 < cLine) (ho : PE X o (tE X.K fo)) (he : PE X e (tE X.K fe)) (hs : NoSl e) :
    PE X (.Subscript o e pos) (tE X.K fun σ h => (fo σ h).bind fun x h1 => (fe σ h1).bind fun y h2 => dixD x y h2) := by
  refine PE.w (pe_dget (by omega) ho he hs) fun σV H Q ⟨σ, h, ρ, s, q⟩ => ?_
  refine tE_of s q fun d h1 v H1 ρ1 s1 k1 r1 q => ?_
  refine tE_of s1 q fun d2 h2 w H2 ρ2 s2 k2 r2 q => ?_
  have r4 := r1.mono k2
  obtain ⟨ks, ds, rfl⟩ : ∃ ks ds, d = .dict ks ds := by cases d <;> first | exact ⟨_, _, rfl⟩ | exact False.elim q
  obtain ⟨z, rfl⟩ : ∃ z, d2 = .str z := by cases d2 <;> first | exact ⟨_, rfl⟩ | exact False.elim q
  cases r4 with
  | @dict a _ _ vs l rr =>
    obtain ⟨o, g, e1, e2⟩ := look_get (x := z) l rr
    have q : (match lookD ks ds z with
      | some d => Res.ok d h2
      | none => .stuck).wp _ := q
    cases e : lookD ks ds z with
    | none => rw [e] at q; exact False.elim q
    | some d4 =>
      rw [e] at q
      obtain ⟨v4, e4, rv⟩ := e2 d4 e
      subst e4
      rw [rI_str r2]
      exact ⟨a, v4, rfl, g, q _ _ _ s2 (k1.trans k2) rv⟩
theorem pe_fnvD {j : Nat} {x : Str} {p : Pos} {f : Addr} (hg : Gl X x) (hm : X.mg x = some (.ref f)) (hn : PySem.W.nsIn X.K mainGlobals x = some (some (.ref f))) (hdb : (x == ("__debug__" : Str)) = false) : PE X (.Name x p) (tE X.K fun _ h => .ok (.fn j x) h) :=
  PE.w (pe_glob hg hm (v := .ref f) rfl hdb) fun σV H Q ⟨σ, h, ρ, s, q⟩ => q _ _ _ s Kps.refl (.fn hn)
theorem pe_callvD {Γ : Gam} {i : Nat} {ops : List (Nat × Str)} {y : Str} {p : Pos} {e : Expr} {es : List Expr} {f : Sg → Hm → Res (List D)} (cs : ∀ j x den, (j, x) ∈ ops → Γ.fn j = some den → CallOk X x den) (hN : X.N[i]? = some y) (hv : Vis X.env.scope y) (hdb : (y == ("__debug__" : Str)) = false) (hcd : (y == ("__classdict__" : Str)) = false)
    (ha : PA X (e :: es) (tA X.K f)) (ns : noStars (e :: es) = true) :
    PE X (.Call (.Name y p) (e :: es) [] pos) (tE X.K fun σ h => match σ[i]? with
    | some (some (.fn j x)) => .guard (decide ((j, x) ∈ ops)) ((f σ h).bind fun ds h1 => match Γ.fn j with
      | some den => den ds h1
      | none => .stuck)
    | _ => .stuck) := by
  have st : starEach (e :: es) X.env = (false, eval e X.env) :: starEach es X.env := star_cons (by
    unfold noStars at ns
    rw [List.all_cons, Bool.and_eq_true] at ns
    exact ns.1)
  have sn : (backTo pos (starEach es X.env)).any (·.1) = false := stars_none (by
    unfold noStars at ns ⊢
    rw [List.all_cons, Bool.and_eq_true] at ns
    exact ns.2)
  refine ⟨fun pins s σV H Q I ⟨σ, h, ρ, sr, q⟩ => ?_⟩
  dsimp only at q
  split at q
  · rename_i j x ei
    obtain ⟨c, q⟩ := Res.wp_guard q
    cases ed : Γ.fn j with
    | none =>
      rw [ed] at q
      cases ef : f σ h with
      | stuck => rw [ef] at q; exact False.elim q
      | err _ _ => rw [ef] at q; exact False.elim q
      | ok ds h1 => rw [ef] at q; exact False.elim q
    | some den =>
      rw [ed] at q
      obtain ⟨g, fd, ps, k, F, hr, hm, hk, hb, hn, hns⟩ := (cs j x den (of_decide_eq_true c) ed).ex
      obtain ⟨v, e1, rv⟩ := sr.sl.get i _ ei
      have ev : v = .ref g := by
        cases rv with
        | fn z =>
          rw [hns] at z
          cases z
          rfl
      subst ev
      refine (pe_callL (p := p) (pos := pos) F hr hN hv hk hb .nil passL ha hdb hcd st sn).run pins s σV H Q I ⟨e1, ?_⟩
      refine tA_of sr q fun ds h1 vs H1 ρ1 s1 k1 r1 q => ?_
      rw [List.append_nil]
      exact sp_of hn s1 k1 r1 q
  · exact False.elim q

/-! ### targets -/
def tgIx : Tg → List Nat
  | .v i => [i]
  | .tup is => is
def tG (K : PySem.W.Frag) (tg : Tg) : TG := fun v σV H Q => ∃ σ h ρ d σ', SR K σ h ρ σV H ∧ Rel K h ρ H d v ∧ asgD tg d σ = some σ' ∧ ∀ σV', SR K σ' h ρ σV' H → (∀ vs : List Nat, (∀ i ∈ tgIx tg, i ∈ vs) → L2.wipe σV' vs = L2.wipe σV vs) → Q σV' H
theorem PG.w {t t' : TG} (p : PG X tg t) (w : ∀ v σ H Q, t' v σ H Q → t v σ H Q) : PG X tg t' := ⟨fun pins s σ H v u Q I r q => p.run pins s σ H v u Q I r (w v σ H Q q)⟩
theorem PGs.w {tgs : List Expr} {t t' : TGs} (p : PGs X tgs t) (w : ∀ v σ H Q, t' v σ H Q → t v σ H Q) : PGs X tgs t' := ⟨fun pins s σ H v u Q I r q => p.run pins s σ H v u Q I r (w v σ H Q q)⟩
theorem wipe_set {i : Nat} {x : Option V} {σV : L2.St} : ∀ {vs : List Nat}, i ∈ vs → L2.wipe (σV.set i x) vs = L2.wipe σV vs
  | v :: vs, h => by
    unfold L2.wipe
    by_cases hv : i ∈ vs
    · rw [wipe_set hv]
    · have e : i = v := by
        rcases List.mem_cons.mp h with e | e
        · exact e
        · exact absurd e hv
      subst e
      have key : ∀ vs : List Nat, i ∉ vs → (L2.wipe (σV.set i x) vs).set i none = (L2.wipe σV vs).set i none := by
        intro vs
        induction vs with
        | nil => intro _; unfold L2.wipe; exact List.set_set ..
        | cons w ws ih =>
          intro hn
          unfold L2.wipe
          have h1 : i ≠ w := fun e => hn (by rw [e]; exact List.mem_cons_self)
          have h2 : i ∉ ws := fun e => hn (List.mem_cons_of_mem _ e)
          rw [List.set_comm _ _ (Ne.symm h1), ih h2, List.set_comm _ _ h1]
      exact key vs hv
theorem pg_vD {i : Nat} {x : Str} (hN : X.N.Nodup) (hi : X.N[i]? = some x) (hx : Loc X.env.scope x) (hf : X.fn x = true ∨ X.env.scope.names.lookup x = some .local) : PG X (.Name x pos) (tG X.K (.v i)) := by
  refine PG.w (pg_name hN hi hx hf) fun v σV H Q ⟨σ, h, ρ, d, σ', s, r, e, q⟩ => ?_
  have e' : some (σ.set i (some d)) = some σ' := e
  cases e'
  exact q _ ⟨s.hp, s.sl.set r⟩ fun vs hv => wipe_set (hv i (by simp [tgIx]))
def tGs (K : PySem.W.Frag) (is : List Nat) : TGs := fun vs σV H Q => ∃ σ h ρ ds σ', SR K σ h ρ σV H ∧ Rels K h ρ H ds vs ∧ setAll is ds σ = some σ' ∧ ∀ σV', SR K σ' h ρ σV' H → (∀ vs : List Nat, (∀ i ∈ is, i ∈ vs) → L2.wipe σV' vs = L2.wipe σV vs) → Q σV' H
/-- names as targets -/
inductive NmT (X : Cx) : List Nat → List Expr → Prop where
  | nil : NmT X [] []
  | cons {i : Nat} {x : Str} {pos : Pos} {is : List Nat} {es : List Expr} : X.N[i]? = some x → Loc X.env.scope x → (X.fn x = true ∨ X.env.scope.names.lookup x = some .local) → NmT X is es → NmT X (i :: is) (.Name x pos :: es)
theorem pgs_D (hN : X.N.Nodup) : ∀ {is : List Nat} {es : List Expr}, NmT X is es → PGs X es (tGs X.K is)
  | _, _, .nil => PGs.w pgs_nil fun vs σV H Q ⟨σ, h, ρ, ds, σ', s, r, e, q⟩ => by
    cases ds with
    | nil =>
      cases r
      cases e
      exact ⟨rfl, q _ s fun _ _ => rfl⟩
    | cons a b => cases e
  | _, _, .cons (i := i) (x := x) (pos := pos) (is := is) (es := es) h1 h2 h3 ht => PGs.w (pgs_cons (pg_vD (pos := pos) hN h1 h2 h3) (pgs_D hN ht) (by rfl)) fun vs σV H Q ⟨σ, h, ρ, ds, σ', s, r, e, q⟩ => by
    cases ds with
    | nil => cases e
    | cons d ds =>
      cases r with
      | cons a b =>
        refine ⟨_, _, rfl, σ, h, ρ, d, _, s, a, rfl, fun σV1 s1 w1 => ⟨_, h, ρ, ds, σ', s1, b, e, fun σV2 s2 w2 => q σV2 s2 fun vs hv => ?_⟩⟩
        rw [w2 vs fun j hj => hv j (List.mem_cons_of_mem _ hj), w1 vs fun j hj => hv j (by
          have e : j = i := by simpa [tgIx] using hj
          rw [e]
          exact List.mem_cons_self)]
theorem NmT.len : ∀ {is : List Nat} {es : List Expr}, NmT X is es → (assignEach es X.env).length = is.length ∧ (assignEach es X.env).findIdx? (·.1) = none
  | _, _, .nil => ⟨rfl, rfl⟩
  | _, _, .cons (x := x) (pos := pos) (es := es) _ _ _ ht => by
    obtain ⟨a, b⟩ := NmT.len ht
    refine ⟨?_, ?_⟩
    · show (assignEach es X.env).length + 1 = _
      rw [a]; rfl
    · show List.findIdx? (·.1) ((false, assign (.Name x pos) X.env) :: assignEach es X.env) = none
      rw [List.findIdx?_cons]
      simp [b]
theorem setAll_len : ∀ {is : List Nat} {ds : List D} {σ σ' : Sg}, setAll is ds σ = some σ' → ds.length = is.length
  | [], [], _, _, _ => rfl
  | i :: is, d :: ds, _, _, e => by
    have := setAll_len (is := is) (ds := ds) e
    simp [this]
  | [], _ :: _, _, _, e => by cases e
  | _ :: _, [], _, _, e => by cases e
theorem pg_or {t t' : TG} (p : PG X tg t) (p' : PG X tg t') : PG X tg (fun v σ H Q => t v σ H Q ∨ t' v σ H Q) := ⟨fun pins s σ H v u Q I r q => by
  rcases q with q | q
  · exact p.run pins s σ H v u Q I r q
  · exact p'.run pins s σ H v u Q I r q⟩
theorem pg_tupD {is : List Nat} {es : List Expr} {k : Nat} (hN : X.N.Nodup) (hc : X.calm = true) (ht : NmT X is es) : PG X (.Tuple es k pos) (tG X.K (.tup is)) := by
  obtain ⟨l1, l2⟩ := ht.len
  refine PG.w (pg_or (pg_tup hc (pgs_D hN ht) l1 l2) (pg_unl hc (pgs_D hN ht) l1 l2)) fun v σV H Q ⟨σ, h, ρ, d, σ', s, r, e, q⟩ => ?_
  cases r with
  | @tup a xs vs l rr => exact .inl ⟨a, vs, rfl, l.sq, by rw [← rr.length]; exact setAll_len e, σ, h, ρ, xs, σ', s, rr, e, q⟩
  | @wtup a xs vs l rr => exact .inl ⟨a, vs, rfl, l.sq, by rw [← rr.length]; exact setAll_len e, σ, h, ρ, xs, σ', s, rr, e, q⟩
  | @lst a xs vs l rr => exact .inr ⟨a, vs, rfl, l.sq, by rw [← rr.length]; exact setAll_len e, σ, h, ρ, xs, σ', s, rr, e, q⟩
  | _ => cases e
end

/-! Mini 10: comprehensions. -/
section
variable {K : PySem.W.Frag}
mutual
theorem RD.isBelow {H : Hp} {ρ : List Addr} {M : Addr → Prop} {n : Nat} (hn : ρ.length = n) : ∀ {d : D} {v : V}, RD K H ρ M d v → belowD n d = true
  | .non, _, _ => rfl
  | .bl _, _, _ => rfl
  | .int _, _, _ => rfl
  | .str _, _, _ => rfl
  | .tup xs, _, h => by
    cases h with
    | tup l r => exact RDs.isBelow hn r
  | .lst xs, _, h => by
    cases h with
    | lst l r => exact RDs.isBelow hn r
  | .wtup xs, _, h => by
    cases h with
    | wtup l r => exact RDs.isBelow hn r
  | .dict ks xs, _, h => by
    cases h with
    | dict l r => exact RDs.isBelow hn r
  | .fn _ _, _, _ => rfl
  | .ref k, _, h => by
    cases h with
    | ref e => exact decide_eq_true (by rw [← hn]; exact (List.getElem?_eq_some_iff.mp e).1)
theorem RDs.isBelow {H : Hp} {ρ : List Addr} {M : Addr → Prop} {n : Nat} (hn : ρ.length = n) : ∀ {ds : List D} {vs : List V}, RDs K H ρ M ds vs → belowDs n ds = true
  | [], _, _ => rfl
  | d :: ds, _, h => by
    cases h with
    | cons a b =>
      unfold belowDs
      rw [RD.isBelow hn a, RDs.isBelow hn b]
      rfl
end
mutual
theorem RD.down {H : Hp} {ρ ρ' : List Addr} {M M' : Addr → Prop} {n : Nat} (hρ : ∀ k a, k < n → ρ[k]? = some a → ρ'[k]? = some a) (hM : ∀ a, M' a → M a) : ∀ {d : D} {v : V}, belowD n d = true → RD K H ρ M d v → RD K H ρ' M' d v
  | .non, _, _, h => by cases h; exact .non
  | .bl _, _, _, h => by cases h; exact .bl _
  | .int _, _, _, h => by cases h; exact .int _
  | .str _, _, _, h => by cases h; exact .str _
  | .tup xs, _, b, h => by
    cases h with
    | tup l r =>
      refine .tup ?_ (RDs.down hρ hM b r)
      rcases l with ⟨o, l1, l2, l3⟩ | l
      · exact .inl ⟨o, l1, l2, fun m => l3 (hM _ m)⟩
      · exact .inr l
  | .lst xs, _, b, h => by
    cases h with
    | lst l r =>
      refine .lst ?_ (RDs.down hρ hM b r)
      rcases l with ⟨l1, l3⟩ | l
      · exact .inl ⟨l1, fun m => l3 (hM _ m)⟩
      · exact .inr l
  | .wtup xs, _, b, h => by
    cases h with
    | wtup l r => exact .wtup ⟨l.1, fun m => l.2 (hM _ m)⟩ (RDs.down hρ hM b r)
  | .dict ks xs, _, b, h => by
    cases h with
    | dict l r => exact .dict ⟨l.1, fun m => l.2.1 (hM _ m), l.2.2⟩ (RDs.down hρ hM b r)
  | .fn j x, _, _, h => by
    cases h with
    | fn e => exact .fn e
  | .ref k, _, b, h => by
    cases h with
    | ref e => exact .ref (hρ k _ (of_decide_eq_true b) e)
theorem RDs.down {H : Hp} {ρ ρ' : List Addr} {M M' : Addr → Prop} {n : Nat} (hρ : ∀ k a, k < n → ρ[k]? = some a → ρ'[k]? = some a) (hM : ∀ a, M' a → M a) : ∀ {ds : List D} {vs : List V}, belowDs n ds = true → RDs K H ρ M ds vs → RDs K H ρ' M' ds vs
  | [], _, _, h => by cases h; exact .nil
  | d :: ds, _, b, h => by
    unfold belowDs at b
    rw [Bool.and_eq_true] at b
    cases h with
    | cons x y => exact .cons (RD.down hρ hM b.1 x) (RDs.down hρ hM b.2 y)
end
/-- things laid behind are forgotten: the first ones stand as they stood -/
theorem HR.back {h h2 : Hm} {ρ ρ2 : List Addr} {H H2 : Hp} (r : HR K h ρ H) (r2 : HR K h2 ρ2 H2) (k : Kp h ρ H h2 ρ2 H2) (e : h2.take h.length = h) :
    HR K h ρ H2 ∧ Kp h ρ H h ρ H2 ∧ (∀ a, Mu ρ h a → Mu ρ2 h2 a) ∧ (∀ (i : Nat) (a : Addr), i < h.length → ρ2[i]? = some a → ρ[i]? = some a) := by
  have hget : ∀ (n : Nat) (o : MO), h[n]? = some o → h2[n]? = some o := fun n o q => by
    rw [← e] at q
    have hn : n < (h2.take h.length).length := (List.getElem?_eq_some_iff.mp q).1
    rw [List.length_take] at hn
    rw [List.getElem?_take_of_lt (by omega)] at q
    exact q
  have hM : ∀ a, Mu ρ h a → Mu ρ2 h2 a := fun a ⟨n, o, q1, q2, q3⟩ => ⟨n, o, k.ref n a q1, hget n o q2, q3⟩
  have hρ : ∀ (i : Nat) (a : Addr), i < h.length → ρ2[i]? = some a → ρ[i]? = some a := fun i a hi q => by
    obtain ⟨b, hb⟩ : ∃ b, ρ[i]? = some b := ⟨ρ[i]'(by rw [r.len]; exact hi), by simp [r.len, hi]⟩
    have := k.ref i b hb
    rw [q] at this
    cases this
    exact hb
  refine ⟨⟨r.len, r.nd, fun n o a q1 q2 => ?_⟩, ⟨fun a o q m => ?_, fun _ _ q => q⟩, hM, hρ⟩
  · have z := r2.obj n o a (hget n o q1) (k.ref n a q2)
    have z1 := r.obj n o a q1 q2
    cases o with
    | gone => exact z
    | lst xs =>
      obtain ⟨vs, z2, z3⟩ := z
      obtain ⟨vs1, _, z4⟩ := z1
      exact ⟨vs, z2, RDs.down hρ hM (RDs.isBelow r.len z4) z3⟩
    | dic ks ds =>
      obtain ⟨vs, z2, z3, z5⟩ := z
      obtain ⟨vs1, _, z4, _⟩ := z1
      exact ⟨vs, z2, RDs.down hρ hM (RDs.isBelow r.len z4) z3, z5⟩
  · obtain ⟨a1, a2⟩ := k.obj a o q m
    exact ⟨a1, m⟩
theorem wipe_wipe (σ : L2.St) : ∀ vs : List Nat, L2.wipe (L2.wipe σ vs) vs = L2.wipe σ vs := by
  intro vs
  apply List.ext_getElem?
  intro i
  by_cases hi : i ∈ vs
  · have key : ∀ (vs : List Nat) (τ : L2.St), i ∈ vs → (L2.wipe τ vs)[i]? = if i < τ.length then some none else none := by
      intro vs
      induction vs with
      | nil => intro τ h; cases h
      | cons v vs ih =>
        intro τ h
        unfold L2.wipe
        rw [List.getElem?_set]
        by_cases hv : v = i
        · subst hv
          rw [if_pos rfl, L2.wipe_length]
        · rw [if_neg hv]
          rcases List.mem_cons.mp h with e | e
          · exact absurd e.symm hv
          · exact ih τ e
    rw [key vs _ hi, key vs _ hi, L2.wipe_length]
  · rw [wipe_out hi]
end
section
variable {X : Cx} {pos : Pos} {tg : Expr}
theorem pts_nilD : PTs X [] (tT X.K fun _ h => .ok true h) := ⟨fun pins s σ H Q I ⟨σD, h, ρ, sr, q⟩ => pts_nil.run pins s σ H Q I (q H ρ sr Kps.refl)⟩
theorem tLcD {K : PySem.W.Frag} {fi : Sg → Hm → Res (List D)} {ft : Sg → Hm → Res Bool} {fe : Sg → Hm → Res D} {tgD : Tg} {mu : Bool} {own : List (Str × Nat)} (hown : ∀ i ∈ tgIx tgD, i ∈ own.map (·.2)) {σV : L2.St} {H : Hp} {Q : VK}
    (hq : tE K (fun σ h => (fi σ h).bind fun src h1 =>
    (compLoop (fun x h2 => match asgD tgD x (wipeD σ (own.map (·.2))) with
      | some σ' => (ft σ' h2).bind fun t h3 => match t with
        | true => (fe σ' h3).bind fun y h4 => .ok (some y) h4
        | false => .ok none h3
      | none => .stuck) h1.length src (h1 ++ [.lst []])).bind fun _ h2 => match listOf? h2 h1.length with
        | some ys => match mu with
          | true => .ok (.ref h1.length) h2
          | false => .ok (.lst ys) (endC h1 h2 ys)
        | none => .stuck) σV H Q) : tLc (tI K fi) (tG K tgD) (tT K ft) (tE K fe) (own.map (·.2)) σV H Q := by
  obtain ⟨σ, h, ρ, s, q⟩ := hq
  refine ⟨σ, h, ρ, s, Res.wp_mono (Res.wp_bind q) fun src h1 q J H1 ρ1 s1 k1 it La hD => ?_⟩
  -- the new list is shared while it grows
  have sP : SR K σ (h1 ++ [.lst []]) (ρ1 ++ [La]) σV (upd H1 La (.lst [])) := s1.push hD .nil
  have kP : Kp h1 ρ1 H1 (h1 ++ [.lst []]) (ρ1 ++ [La]) (upd H1 La (.lst [])) := Kp.push s1.hp hD
  have eD : (ρ1 ++ [La])[h1.length]? = some La := by rw [← s1.hp.len]; simp
  generalize hf : (fun (x : D) (h2 : Hm) => match asgD tgD x (wipeD σ (own.map (·.2))) with
      | some σ' => (ft σ' h2).bind fun t h3 => match t with
        | true => (fe σ' h3).bind fun y h4 => Res.ok (some y) h4
        | false => Res.ok none h3
      | none => Res.stuck) = f at q
  refine ⟨fun i m H2 => ∃ h2 ρ2, HR K h2 ρ2 H2 ∧ Kp (h1 ++ [.lst []]) (ρ1 ++ [La]) (upd H1 La (.lst [])) h2 ρ2 H2 ∧ m = src.length - i ∧ i ≤ src.length ∧
      ((compLoop f h1.length (src.drop i) h2).bind fun _ h2 => match listOf? h2 h1.length with
        | some ys => match mu with
          | true => Res.ok (D.ref h1.length) h2
          | false => Res.ok (D.lst ys) (endC h1 h2 ys)
        | none => Res.stuck).wp fun d h' => ∀ v H' ρ', SR K σ h' ρ' σV H' → Kp h ρ H h' ρ' H' → Rel K h' ρ' H' d v → Q v H',
    ⟨src.length, _, _, sP.hp, Kps.refl, by simp, Nat.zero_le _, by rw [List.drop_zero]; exact q⟩, ?_⟩
  rintro i m H2 ⟨h2, ρ2, r2, k2, rfl, hi, q⟩
  have sl2 : SlR K H2 ρ2 (Mu ρ2 h2) σ σV := sP.sl.mono k2
  have eD2 : ρ2[h1.length]? = some La := k2.ref _ _ eD
  obtain ⟨it1, it2⟩ := it h2 ρ2 H2 r2 (kP.trans k2)
  by_cases hlt : i < src.length
  · -- one turn
    have ex : src[i]? = some src[i] := List.getElem?_eq_getElem hlt
    rw [List.drop_eq_getElem_cons hlt] at q
    obtain ⟨go, yl⟩ := it1 i _ ex
    refine .inr ⟨go, _, fun H' n => ⟨src.length - (i + 1), by omega, n⟩, fun x H3 y => ?_⟩
    obtain ⟨r3, k3, rx⟩ := yl x H3 y
    unfold compLoop at q
    have q := Res.wp_bind (Res.wp_bind q)
    cases ea : asgD tgD src[i] (wipeD σ (own.map (·.2))) with
    | none =>
      rw [← hf] at q
      dsimp only at q
      rw [ea] at q
      exact False.elim q
    | some σ' =>
      have s3 : SR K (wipeD σ (own.map (·.2))) h2 ρ2 (L2.wipe σV (own.map (·.2))) H3 := ⟨r3, (sl2.mono k3).wipe _⟩
      refine ⟨_, h2, ρ2, src[i], σ', s3, rx, ea, fun σV' s4 w4 => ⟨by rw [w4 _ hown, wipe_wipe], ?_⟩⟩
      have ef : f src[i] h2 = (ft σ' h2).bind fun t h3 => match t with
        | true => (fe σ' h3).bind fun y h4 => Res.ok (some y) h4
        | false => Res.ok none h3 := by
          rw [← hf]
          dsimp only
          rw [ea]
      rw [ef] at q
      refine tT_of s4 q fun b h4 H4 ρ4 s5 k5 q => ?_
      have k4 := (k2.trans k3).trans k5
      cases b with
      | false =>
        refine iteF ?_
        exact ⟨h4, ρ4, s5.hp, k4, rfl, hlt, (by
          have q : ((compLoop f h1.length (src.drop (i + 1)) h4).bind _).wp _ := Res.bind_wp_of q
          exact q)⟩
      | true =>
        refine iteT ?_
        refine tE_of s5 q fun d h5 v H5 ρ5 s6 k6 r6 q => ?_
        have q : ((match listOf? h5 h1.length with
          | some acc => Res.guard (decide (acc.length < LIM)) (compLoop f h1.length (src.drop (i + 1)) (h5.set h1.length (.lst (acc ++ [d]))))
          | none => Res.stuck)).wp _ := q
        cases el : listOf? h5 h1.length with
        | none => rw [el] at q; exact False.elim q
        | some acc =>
          rw [el] at q
          obtain ⟨c, q⟩ := Res.wp_guard q
          have eD5 : ρ5[h1.length]? = some La := k6.ref _ _ (k4.ref _ _ eD)
          obtain ⟨vs, e5, rs5⟩ := s6.hp.ref eD5 el
          have eh := listOf_eq el
          refine ⟨vs, e5, by rw [← rs5.length]; exact lt_sz c, ?_⟩
          exact ⟨_, ρ5, s6.hp.write eD5 eh (rs5.append (.cons r6 .nil)), (k4.trans k6).trans (Kp.write eD5 eh), rfl, hlt, Res.bind_wp_of q⟩
  · have e : i = src.length := by omega
    subst e
    refine .inl ⟨it2, ?_⟩
    rw [List.drop_length] at q
    have q : (match listOf? h2 h1.length with
        | some ys => match mu with
          | true => Res.ok (D.ref h1.length) h2
          | false => Res.ok (D.lst ys) (endC h1 h2 ys)
        | none => Res.stuck).wp _ := q
    cases el : listOf? h2 h1.length with
    | none => rw [el] at q; exact False.elim q
    | some ys =>
      rw [el] at q
      cases mu with
      | true => exact q _ _ _ ⟨r2, sl2⟩ (k1.trans (kP.trans k2)) (.ref eD2)
      | false =>
        have q : (Res.ok (D.lst ys) (endC h1 h2 ys)).wp _ := q
        have eh := listOf_eq el
        have rc := r2.close eD2 eh
        have kc : Kp h2 ρ2 H2 (h2.set h1.length .gone) ρ2 H2 := Kp.close eD2 eh
        unfold endC at q
        split at q
        · rename_i hcond
          obtain ⟨⟨c1, c2⟩, c3⟩ := hcond
          obtain ⟨b1, b2, b3, b4⟩ := HR.back s1.hp r2 (kP.trans k2) c1
          obtain ⟨vs, e5, rs5⟩ := r2.ref eD2 el
          have nM : ¬ Mu ρ1 h1 La := s1.hp.fresh hD
          exact q _ _ _ (s1.of b1 b2) (k1.trans b2) (.lst (.inl ⟨.inl e5, nM⟩) (RDs.down b4 b3 c3 rs5))
        · exact q _ _ _ ⟨rc.1, sl2.mono kc⟩ (k1.trans ((kP.trans k2).trans kc)) rc.2
end

/-! Mini 11: whether a piece of the text is what the small language says. -/

/-! ### looking at a piece of syntax -/
def gNm : Expr → Option Str | .Name x _ => some x | _ => none
def gBin : Expr → Option (Expr × Operator × Expr) | .BinOp a o b _ => some (a, o, b) | _ => none
def gUn : Expr → Option (UnaryOp × Expr) | .UnaryOp o a _ => some (o, a) | _ => none
def gCmp : Expr → Option (Expr × List CmpOp × List Expr) | .Compare a os bs _ => some (a, os, bs) | _ => none
def gBool : Expr → Option (BoolOp × List Expr × Pos) | .BoolOp o vs p => some (o, vs, p) | _ => none
def gIf : Expr → Option (Expr × Expr × Expr) | .IfExp c a b _ => some (c, a, b) | _ => none
def gTup : Expr → Option (List Expr) | .Tuple es _ _ => some es | _ => none
def gLst : Expr → Option (List Expr) | .List es _ => some es | _ => none
def gSub : Expr → Option (Expr × Expr) | .Subscript a b _ => some (a, b) | _ => none
def gSlc : Expr → Option (Option Expr × Option Expr) | .Slice a b none _ => some (a, b) | _ => none
def gCst : Expr → Option Const | .Constant c _ _ => some c | _ => none
def gCall : Expr → Option (Str × List Expr × List Keyword) | .Call (.Name x _) es ks _ => some (x, es, ks) | _ => none
def gMeth : Expr → Option (Expr × Str × List Expr × Pos × Pos) | .Call (.Attribute o m ap) es [] cp => some (o, m, es, ap, cp) | _ => none
def gLc : Expr → Option (Expr × Expr × Expr × List Expr × Scope) | .ListComp elt [⟨tg, it, ifs, 0⟩] sc _ => some (elt, tg, it, ifs, sc) | _ => none
def gRev : Expr → Option Expr | .Subscript e (.Slice none none (some (.UnaryOp .USub (.Constant (.int 1) _ _) _)) _) _ => some e | _ => none
theorem gRev_eq {e x : Expr} (h : gRev e = some x) : ∃ k p1 p2 p3 p, e = .Subscript x (.Slice none none (some (.UnaryOp .USub (.Constant (.int 1) k p1) p2)) p3) p := by
  unfold gRev at h
  split at h
  · cases h; exact ⟨_, _, _, _, _, rfl⟩
  · cases h
theorem gCst_eq' {e : Expr} {c : Const} (h : gCst e = some c) : ∃ k p, e = .Constant c k p := by
  cases e <;> first | cases h | skip
  exact ⟨_, _, rfl⟩
def gNest : Expr → Option (Str × Str × List Expr) | .Call (.Name x _) [.Call (.Name y _) as [] _] [] _ => some (x, y, as) | _ => none
def gDct : Expr → Option (List (Option Expr) × List Expr) | .Dict ks vs _ => some (ks, vs) | _ => none
theorem gNest_eq {e : Expr} {x y : Str} {as : List Expr} (h : gNest e = some (x, y, as)) : ∃ p p2 q pos, e = .Call (.Name x p) [.Call (.Name y p2) as [] q] [] pos := by
  unfold gNest at h
  split at h
  · cases h; exact ⟨_, _, _, _, rfl⟩
  · cases h
theorem gDct_eq {e : Expr} {ks : List (Option Expr)} {vs : List Expr} (h : gDct e = some (ks, vs)) : ∃ p, e = .Dict ks vs p := by
  cases e <;> first | cases h | skip
  exact ⟨_, rfl⟩
def dctB : List (Str × Int) → List (Option Expr) → List Expr → Bool
  | [], [], [] => true
  | (x, i) :: r, k :: ks, v :: vs => (match k with
    | some k => (match gCst k with | some (.str d) => decide (x = d) | _ => false)
    | none => false) && (match gCst v with | some (.int d) => decide (i = d) | _ => false) && dctB r ks vs
  | _, _, _ => false
theorem dctB_ok : ∀ {kvs : List (Str × Int)} {ks : List (Option Expr)} {vs : List Expr}, dctB kvs ks vs = true → dctK kvs ks vs
  | [], [], [], _ => trivial
  | (x, i) :: r, k :: ks, v :: vs, h => by
    unfold dctB at h
    rw [Bool.and_eq_true, Bool.and_eq_true] at h
    obtain ⟨⟨h1, h2⟩, h3⟩ := h
    refine ⟨?_, dctB_ok h3⟩
    cases k with
    | none => cases h1
    | some k =>
      dsimp only at h1
      split at h1
      · rename_i d e1
        split at h2
        · rename_i d2 e2
          obtain ⟨c1, p1, rfl⟩ := gCst_eq' e1
          obtain ⟨c2, p2, rfl⟩ := gCst_eq' e2
          have z1 := of_decide_eq_true h1
          have z2 := of_decide_eq_true h2
          subst z1 z2
          exact ⟨_, _, _, _, rfl, rfl⟩
        · cases h2
      · cases h1
  | [], [], _ :: _, h => by cases h
  | [], _ :: _, _, h => by cases h
  | _ :: _, [], _, h => by cases h
  | _ :: _, _ :: _, [], h => by cases h
theorem gNm_eq {e : Expr} {x : Str} (h : gNm e = some x) : ∃ p, e = .Name x p := by
  cases e <;> first | cases h | skip
  exact ⟨_, rfl⟩
theorem gBin_eq {e : Expr} {a b : Expr} {o : Operator} (h : gBin e = some (a, o, b)) : ∃ p, e = .BinOp a o b p := by
  cases e <;> first | cases h | skip
  exact ⟨_, rfl⟩
theorem gUn_eq {e a : Expr} {o : UnaryOp} (h : gUn e = some (o, a)) : ∃ p, e = .UnaryOp o a p := by
  cases e <;> first | cases h | skip
  exact ⟨_, rfl⟩
theorem gCmp_eq {e a : Expr} {os : List CmpOp} {bs : List Expr} (h : gCmp e = some (a, os, bs)) : ∃ p, e = .Compare a os bs p := by
  cases e <;> first | cases h | skip
  exact ⟨_, rfl⟩
theorem gBool_eq {e : Expr} {o : BoolOp} {vs : List Expr} {p : Pos} (h : gBool e = some (o, vs, p)) : e = .BoolOp o vs p := by
  cases e <;> first | cases h | skip
  rfl
theorem gIf_eq {e c a b : Expr} (h : gIf e = some (c, a, b)) : ∃ p, e = .IfExp c a b p := by
  cases e <;> first | cases h | skip
  exact ⟨_, rfl⟩
theorem gTup_eq {e : Expr} {es : List Expr} (h : gTup e = some es) : ∃ k p, e = .Tuple es k p := by
  cases e <;> first | cases h | skip
  exact ⟨_, _, rfl⟩
theorem gLst_eq {e : Expr} {es : List Expr} (h : gLst e = some es) : ∃ p, e = .List es p := by
  cases e <;> first | cases h | skip
  exact ⟨_, rfl⟩
theorem gSub_eq {e a b : Expr} (h : gSub e = some (a, b)) : ∃ p, e = .Subscript a b p := by
  cases e <;> first | cases h | skip
  exact ⟨_, rfl⟩
theorem gSlc_eq {e : Expr} {a b : Option Expr} (h : gSlc e = some (a, b)) : ∃ p, e = .Slice a b none p := by
  cases e <;> first | cases h | skip
  rename_i l u st p
  cases st with
  | none => cases h; exact ⟨_, rfl⟩
  | some z => cases h
theorem gCst_eq {e : Expr} {c : Const} (h : gCst e = some c) : ∃ k p, e = .Constant c k p := by
  cases e <;> first | cases h | skip
  exact ⟨_, _, rfl⟩
theorem gCall_eq {e : Expr} {x : Str} {es : List Expr} {ks : List Keyword} (h : gCall e = some (x, es, ks)) : ∃ p q, e = .Call (.Name x p) es ks q := by
  cases e <;> first | cases h | skip
  rename_i f es ks p
  cases f <;> first | cases h | skip
  exact ⟨_, _, rfl⟩
theorem gMeth_eq {e o : Expr} {m : Str} {es : List Expr} {ap cp : Pos} (h : gMeth e = some (o, m, es, ap, cp)) : e = .Call (.Attribute o m ap) es [] cp := by
  cases e <;> first | cases h | skip
  rename_i f es ks p
  cases f <;> first | cases h | skip
  cases ks <;> cases h
  rfl
theorem gLc_eq {e elt tg it : Expr} {ifs : List Expr} {sc : Scope} (h : gLc e = some (elt, tg, it, ifs, sc)) : ∃ p, e = .ListComp elt [⟨tg, it, ifs, 0⟩] sc p := by
  cases e <;> first | cases h | skip
  rename_i elt gs sc p
  match gs, h with
  | [⟨tg, it, ifs, .ofNat 0⟩], h => cases h; exact ⟨_, rfl⟩

/-! ### where one stands -/
structure Ctx where
  N : List Str
  names : List (Str × NameKind)
  own : Option (List (Str × NameKind))
  fnm : List Str
  glm : List Str
  kw : List (Nat × Nat × List Str × List Nat)
  /-- whether repr may stand here (the law alone) -/
  rp : Bool
  /-- classes that are raised here; (raised, caught) pairs -/
  exc : List Str
  exm : List (Str × Str)
def bNames : List Str := ["len", "abs", "int", "tuple", "list", "all", "any", "sum", "max", "min", "str", "bool", "isinstance", "range", "sorted", "reversed", "enumerate", "zip", "set", "repr"]
structure Good (c : Ctx) (Γ : Gam) (X : Cx) : Prop where
  N : X.N = c.N
  nd : c.N.Nodup
  names : X.env.scope.names = c.names
  kind : X.env.scope.kind = .function
  calm : X.calm = true
  fnn : ∀ x, X.fn x = (match c.own with | none => true | some l => l.lookup x == some .cell)
  units : X.A.units + 64 < cLine
  gd : c.rp = true → X.A.guards = some []
  bi : ∀ x ∈ bNames, X.mg x = none
  fn : ∀ i den, Γ.fn i = some den → ∃ x, c.fnm[i]? = some x ∧ CallOk X x den
  kw : ∀ i n ks perm den, (i, n, ks, perm) ∈ c.kw → Γ.fn i = some den → ∃ x, c.fnm[i]? = some x ∧ CallKOk X x den n ks perm
  gl : ∀ g d, Γ.gl g = some d → ∃ x u v, c.glm[g]? = some x ∧ X.mg x = some u ∧ RelV v u ∧ ∀ H ρ M, RD X.K H ρ M d v
def isGl (c : Ctx) (x : Str) : Bool := decide (c.names.lookup x = some .globalImplicit) && !(x == ("__debug__" : Str))
def isVis (c : Ctx) (x : Str) : Bool := (match c.names.lookup x with | some .local => true | some .cell => true | some .free => true | _ => false) && !(x == ("__debug__" : Str)) && !(x == ("__classdict__" : Str))
def isLoc (c : Ctx) (x : Str) : Bool := match c.names.lookup x with
  | some .local => true
  | some .cell => (match c.own with | none => true | some l => l.lookup x == some .cell)
  | _ => false
def isBi (c : Ctx) (x : Str) : Bool := isGl c x && decide (x ∈ bNames)
def mkSc (names : List (Str × NameKind)) : Scope := { kind := .function, names := names, isGenerator := false, isCoroutine := false }
def plainIx : Expr → Bool
  | .Slice .. => false
  | _ => true
theorem plainIx_ok {e : Expr} (h : plainIx e = true) : PlainIx e := by
  intro o i
  cases e <;> first | exact Bool.noConfusion h | rfl
def notSet : Expr → Bool
  | .Set .. => false
  | _ => true
theorem notSet_ok {e : Expr} {env : Env} (h : notSet e = true) : ∀ x, foldedSetIterable e env x = pure x := by
  intro x
  cases e <;> first | exact Bool.noConfusion h | rfl
/-- names as targets -/
def chkNms (c : Ctx) : List Nat → List Expr → Bool
  | [], [] => true
  | i :: is, e :: es => (match gNm e with
    | some x => decide (c.N[i]? = some x) && isLoc c x
    | none => false) && chkNms c is es
  | _, _ => false
def chkTg (c : Ctx) : Tg → Expr → Bool
  | .v i, e => match gNm e with
    | some x => decide (c.N[i]? = some x) && isLoc c x
    | none => false
  | .tup is, e => match gTup e with
    | some es => chkNms c is es
    | none => false
def opB : Op2 → Operator → Bool
  | .add, .Add => true | .sub, .Sub => true | .mul, .Mult => true | .fdiv, .FloorDiv => true | .mod, .Mod => true | .pow, .Pow => true | .addM, .Add => true | _, _ => false
def blkCtx (c : Ctx) (sc : Scope) : Ctx := { c with names := (relS sc (mkSc c.names)).names, own := some sc.names }
/-- a chain's rest -/
def isBop : Bool → CmpOp → Bool | false, .Is => true | true, .IsNot => true | _, _ => false
def restOf (o : BoolOp) (b : Expr) (r : List Expr) (p : Pos) : Expr := match r with
  | [] => b
  | r => .BoolOp o (b :: r) p
def chkTys (c : Ctx) : List Ty → List Expr → Bool
  | [], [] => true
  | t :: ts, e :: es => (match gNm e with
    | some x => decide (x = tyNm t) && isBi c x
    | none => false) && chkTys c ts es
  | _, _ => false

mutual
def chkE : Ex → Ctx → Expr → Bool
  | .v i, c, pe => match gNm pe with
    | some x => decide (c.N[i]? = some x) && isVis c x
    | none => false
  | .non, _, pe => match gCst pe with
    | some .none => true
    | _ => false
  | .bl b, _, pe => match gCst pe with
    | some (.bool d) => decide (b = d)
    | _ => false
  | .int b, _, pe => match gCst pe with
    | some (.int d) => decide (b = d)
    | _ => false
  | .str b, _, pe => match gCst pe with
    | some (.str d) => decide (b = d)
    | _ => false
  | .glob g, c, pe => match gNm pe with
    | some x => decide (c.glm[g]? = some x) && isGl c x
    | none => false
  | .op2 o a b, c, pe => match gBin pe with
    | some (l, po, r) => opB o po && chkE a c l && chkE b c r
    | none => false
  | .neg a, c, pe => match gUn pe with
    | some (.USub, x) => chkE a c x
    | _ => false
  | .cmp o a b, c, pe => match gCmp pe with
    | some (x, [p], [y]) => cmB o p && !behindInMarks p y && chkE a c x && chkE b c y
    | _ => false
  | .chain o1 o2 a b d, c, pe => match gCmp pe with
    | some (x, [p, q], [y, z]) => cmB o1 p && (cmB o2 q && !behindInMarks q z) && chkE a c x && chkE b c y && chkE d c z
    | _ => false
  | .isN a, c, pe => match gCmp pe with
    | some (x, [.Is], [y]) => (match gCst y with | some .none => true | _ => false) && chkE a c x
    | _ => false
  | .notN a, c, pe => match gCmp pe with
    | some (x, [.IsNot], [y]) => (match gCst y with | some .none => true | _ => false) && chkE a c x
    | _ => false
  | .isB ng a b, c, pe => match gCmp pe with
    | some (x, [o], [y]) => isBop ng o && (match gCst y with | some (.bool d) => decide (b = d) | _ => false) && chkE a c x
    | _ => false
  | .band a b, c, pe => match gBool pe with
    | some (.And, x :: y :: r, p) => chkE a c x && chkE b c (restOf .And y r p)
    | _ => false
  | .bor a b, c, pe => match gBool pe with
    | some (.Or, x :: y :: r, p) => chkE a c x && chkE b c (restOf .Or y r p)
    | _ => false
  | .bnot a, c, pe => match gUn pe with
    | some (.Not, x) => chkE a c x
    | _ => false
  | .ifx t a b, c, pe => match gIf pe with
    | some (x, y, z) => chkE t c x && chkE a c y && chkE b c z
    | none => false
  | .tup es, c, pe => match gTup pe with
    | some ps => chkEs es c ps
    | none => false
  | .lst es, c, pe => match gLst pe with
    | some ps => chkEs es c ps
    | none => false
  | .lstM es, c, pe => match gLst pe with
    | some ps => chkEs es c ps
    | none => false
  | .ix a i, c, pe => match gSub pe with
    | some (x, y) => plainIx y && chkE a c x && chkE i c y
    | none => false
  | .slice a lo hi, c, pe => match gSub pe with
    | some (x, y) => (match gSlc y with
      | some (l, u) => chkE a c x && chkO lo c l && chkO hi c u
      | none => false)
    | none => false
  | .rev a, c, pe => match gRev pe with
    | some x => chkE a c x
    | none => false
  | .call f es, c, pe => match gCall pe with
    | some (x, ps, []) => decide (c.fnm[f]? = some x) && isGl c x && chkEs es c ps
    | _ => false
  | .callk f es kes perm, c, pe => match gCall pe with
    | some (x, ps, k :: ks) => decide (c.fnm[f]? = some x) && isGl c x && decide ((f, ps.length, (k :: ks).filterMap (·.arg), perm) ∈ c.kw) && decide ((k :: ks).map (·.arg) = ((k :: ks).filterMap (·.arg)).map some) && chkEs es c ps && chkKs kes c (k :: ks)
    | _ => false
  | .isi a t, c, pe => match gCall pe with
    | some (x, [y, z], []) => (match gNm z with
      | some w => decide (x = ("isinstance" : Str)) && isBi c x && decide (w = tyNm t) && isBi c w && notStar y && chkE a c y
      | none => false)
    | _ => false
  | .isiT a ts, c, pe => match gCall pe with
    | some (x, [y, z], []) => (match gTup z with
      | some ws => decide (x = ("isinstance" : Str)) && isBi c x && chkTys c ts ws && decide (ts.length ≤ 100) && notStar y && chkE a c y
      | none => false)
    | _ => false
  | .bi b es, c, pe => match gCall pe with
    | some (x, p :: ps, []) => decide (x = biName b) && (decide (b ≠ .repr) || c.rp) && isBi c x && chkEs es c (p :: ps)
    | _ => false
  | .meth m r es, c, pe => match gMeth pe with
    | some (o, nm, p :: ps, ap, cp) => decide (nm = mtNm m) && decide ((p :: ps).length < 30) && notCall o && (ap.endLine == cp.line) && chkE r c o && chkEs es c (p :: ps)
    | _ => false
  | .lenset a, c, pe => match gNest pe with
    | some (x, y, [z]) => decide (x = ("len" : Str)) && isBi c x && decide (y = ("set" : Str)) && isBi c y && notStar z && chkE a c z
    | _ => false
  | .sortset a, c, pe => match gNest pe with
    | some (x, y, [z]) => decide (x = ("sorted" : Str)) && isBi c x && decide (y = ("set" : Str)) && isBi c y && notStar z && chkE a c z
    | _ => false
  | .rngM a, c, pe => match gNest pe with
    | some (x, y, [z]) => decide (x = ("list" : Str)) && isBi c x && decide (y = ("range" : Str)) && isBi c y && notStar z && chkE a c z
    | _ => false
  | .rngs l a b, c, pe => match gNest pe with
    | some (x, y, [z, w]) => decide (x = if l = true then ("list" : Str) else ("tuple" : Str)) && isBi c x && decide (y = ("range" : Str)) && isBi c y && notStar z && notStar w && chkE a c z && chkE b c w
    | _ => false
  | .dct kvs, _, pe => match gDct pe with
    | some (ks, vs) => decide (kvs ≠ []) && decide (kvs.length ≤ 15) && decide (kvs.map (·.1)).Nodup && dctB kvs ks vs
    | none => false
  | .dctM, _, pe => match gDct pe with
    | some (ks, vs) => ks.isEmpty && vs.isEmpty
    | none => false
  | .dix d k, c, pe => match gSub pe with
    | some (a, b) => plainIx b && chkE d c a && chkE k c b
    | none => false
  | .dget d k f, c, pe => match gMeth pe with
    | some (o, nm, [p, q], ap, cp) => decide (nm = ("get" : Str)) && notCall o && (ap.endLine == cp.line) && notStar p && notStar q && chkE d c o && chkE k c p && chkE f c q
    | _ => false
  | .fnv j x, c, pe => match gNm pe with
    | some y => decide (y = x) && decide (c.fnm[j]? = some x) && isGl c x
    | none => false
  | .callv i ops es, c, pe => match gCall pe with
    | some (y, p :: ps, []) => decide (c.N[i]? = some y) && isVis c y && ops.all (fun o => decide (c.fnm[o.1]? = some o.2)) && chkEs es c (p :: ps)
    | _ => false
  | .comp _ own tg it cond elt, c, pe => match gLc pe with
    | some (pelt, ptg, pit, ifs, sc) => blkC c.N (mkSc c.names) sc own && (tgIx tg).all (fun i => decide (i ∈ own.map (·.2))) && chkTg (blkCtx c sc) tg ptg && notSet pit && chkI it c ptg pit && chkTs cond (blkCtx c sc) ifs && chkE elt (blkCtx c sc) pelt
    | none => false
def chkEs : Exs → Ctx → List Expr → Bool
  | .nil, _, [] => true
  | .cons e es, c, p :: ps => notStar p && chkE e c p && chkEs es c ps
  | _, _, _ => false
def chkKs : Exs → Ctx → List Keyword → Bool
  | .nil, _, [] => true
  | .cons e es, c, p :: ps => chkE e c p.value && chkKs es c ps
  | _, _, _ => false
def chkTs : Exs → Ctx → List Expr → Bool
  | .nil, _, [] => true
  | .cons e .nil, c, [p] => chkE e c p
  | _, _, _ => false
def chkO : Eo → Ctx → Option Expr → Bool
  | .none, _, none => true
  | .some e, c, some p => chkE e c p
  | _, _, _ => false
def chkI : It → Ctx → Expr → Expr → Bool
  | .ex e, c, _, pe => chkE e c pe
  | .rvs e, c, _, pe => match gCall pe with
    | some (x, [y], []) => decide (x = ("reversed" : Str)) && isBi c x && notStar y && chkE e c y
    | _ => false
  | .enm e, c, tg, pe => match gCall pe with
    | some (x, [y], []) => (gTup tg).isSome && decide (x = ("enumerate" : Str)) && isBi c x && notStar y && chkE e c y
    | _ => false
  | .enmT e, c, tg, pe => match gCall pe with
    | some (x, [y], []) => (gTup tg).isSome && decide (x = ("enumerate" : Str)) && isBi c x && notStar y && chkE e c y
    | _ => false
  | .sgn e, c, _, pe => chkE e c pe
  | .zp a b, c, tg, pe => match gCall pe with
    | some (x, [y, z], []) => (gTup tg).isSome && decide (x = ("zip" : Str)) && isBi c x && notStar y && notStar z && chkE a c y && chkE b c z
    | _ => false
  | .rng1 a, c, _, pe => match gCall pe with
    | some (x, [y], []) => decide (x = ("range" : Str)) && isBi c x && notStar y && chkE a c y
    | _ => false
  | .rng2 a b, c, _, pe => match gCall pe with
    | some (x, [y, z], []) => decide (x = ("range" : Str)) && isBi c x && notStar y && notStar z && chkE a c y && chkE b c z
    | _ => false
end

/-! Mini 12: the expressions of the small language are sound. -/

section
variable {c : Ctx} {Γ : Gam} {X : Cx} {x : Str}
theorem isGl_ok (G : Good c Γ X) (h : isGl c x = true) : Gl X x ∧ (x == ("__debug__" : Str)) = false := by
  unfold isGl at h
  rw [Bool.and_eq_true] at h
  refine ⟨?_, by simpa using h.2⟩
  show X.env.scope.names.lookup x = _
  rw [G.names]
  exact of_decide_eq_true h.1
theorem isBi_ok (G : Good c Γ X) (h : isBi c x = true) : Gl X x ∧ X.mg x = none := by
  unfold isBi at h
  rw [Bool.and_eq_true] at h
  exact ⟨(isGl_ok G h.1).1, G.bi x (of_decide_eq_true h.2)⟩
theorem isVis_ok (G : Good c Γ X) (h : isVis c x = true) : Vis X.env.scope x ∧ (x == ("__debug__" : Str)) = false ∧ (x == ("__classdict__" : Str)) = false := by
  unfold isVis at h
  rw [Bool.and_eq_true, Bool.and_eq_true] at h
  obtain ⟨⟨h1, h2⟩, h3⟩ := h
  refine ⟨?_, by simpa using h2, by simpa using h3⟩
  unfold Vis
  rw [G.names]
  split at h1
  · exact .inl (by assumption)
  · exact .inr (.inl (by assumption))
  · exact .inr (.inr (by assumption))
  · cases h1
theorem isLoc_ok (G : Good c Γ X) (h : isLoc c x = true) : Loc X.env.scope x ∧ (X.fn x = true ∨ X.env.scope.names.lookup x = some .local) := by
  unfold isLoc at h
  unfold L2.Loc
  rw [G.names]
  split at h
  · rename_i e
    exact ⟨.inl e, .inr e⟩
  · rename_i e
    exact ⟨.inr e, .inl (by rw [G.fnn]; exact h)⟩
  · cases h
theorem chkNms_ok (G : Good c Γ X) : ∀ {is : List Nat} {es : List Expr}, chkNms c is es = true → NmT X is es
  | [], [], _ => .nil
  | i :: is, e :: es, h => by
    unfold chkNms at h
    rw [Bool.and_eq_true] at h
    obtain ⟨h1, h2⟩ := h
    split at h1
    · rename_i x e1
      obtain ⟨p, rfl⟩ := gNm_eq e1
      rw [Bool.and_eq_true] at h1
      have l := isLoc_ok G h1.2
      exact .cons (by rw [G.N]; exact of_decide_eq_true h1.1) l.1 l.2 (chkNms_ok G h2)
    · cases h1
  | [], _ :: _, h => by cases h
  | _ :: _, [], h => by cases h
theorem chkTg_ok (G : Good c Γ X) {tg : Tg} {e : Expr} (h : chkTg c tg e = true) : PG X e (tG X.K tg) := by
  have nd : X.N.Nodup := by rw [G.N]; exact G.nd
  cases tg with
  | v i =>
    have h2 : (match gNm e with
      | some x => decide (c.N[i]? = some x) && isLoc c x
      | none => false) = true := h
    clear h
    split at h2
    · rename_i x e1
      obtain ⟨p, rfl⟩ := gNm_eq e1
      rw [Bool.and_eq_true] at h2
      have l := isLoc_ok G h2.2
      exact pg_vD nd (by rw [G.N]; exact of_decide_eq_true h2.1) l.1 l.2
    · cases h2
  | tup is =>
    have h2 : (match gTup e with
      | some es => chkNms c is es
      | none => false) = true := h
    clear h
    split at h2
    · rename_i es e1
      obtain ⟨k, p, rfl⟩ := gTup_eq e1
      exact pg_tupD nd G.calm (chkNms_ok G h2)
    · cases h2
theorem chkTys_ok (G : Good c Γ X) : ∀ {ts : List Ty} {es : List Expr}, chkTys c ts es = true → Paired (fun (t : Ty) (e : Expr) => ∃ p, e = .Name (tyNm t) p ∧ Gl X (tyNm t) ∧ X.mg (tyNm t) = none) ts es
  | [], [], _ => .nil
  | t :: ts, e :: es, h => by
    unfold chkTys at h
    rw [Bool.and_eq_true] at h
    obtain ⟨h1, h2⟩ := h
    split at h1
    · rename_i x e1
      obtain ⟨p, rfl⟩ := gNm_eq e1
      rw [Bool.and_eq_true] at h1
      have e2 := of_decide_eq_true h1.1
      subst e2
      exact .cons ⟨p, rfl, isBi_ok G h1.2⟩ (chkTys_ok G h2)
    · cases h1
  | [], _ :: _, h => by cases h
  | _ :: _, [], h => by cases h
/-- within a comprehension's block -/
theorem Good.blk (G : Good c Γ X) {sc : Scope} (hk : sc.kind = .function) (s : Shared) (H : Hp) (C : Addr) (cl : List (Str × Addr)) (fp : List Addr) : Good (blkCtx c sc) Γ (X.blk s H sc (compEnvC sc cl C X.env) fp) where
  N := G.N
  nd := G.nd
  names := by
    show (relS sc X.env.scope).names = (relS sc (mkSc c.names)).names
    unfold relS
    rw [G.kind, G.names]
    rfl
  kind := hk
  calm := G.calm
  fnn := fun _ => rfl
  units := G.units
  gd := G.gd
  bi := G.bi
  fn := fun i den e => by
    obtain ⟨x, h1, h2⟩ := G.fn i den e
    obtain ⟨f, fd, ps, k, F⟩ := h2.ex
    exact ⟨x, h1, ⟨f, fd, ps, k, F⟩⟩
  kw := fun i n ks perm den hm e => by
    obtain ⟨x, h1, h2⟩ := G.kw i n ks perm den hm e
    obtain ⟨f, fd, ps, k, F⟩ := h2.ex
    exact ⟨x, h1, ⟨f, fd, ps, k, F⟩⟩
  gl := fun g d e => G.gl g d e
theorem blkC_ok (G : Good c Γ X) {sc : Scope} {own : List (Str × Nat)} (h : blkC c.N (mkSc c.names) sc own = true) : BlkOk X.N X.env.scope sc own := by
  have b := blkOk_by h
  rw [G.N]
  exact ⟨b.kind, b.uniq, b.ix, fun y hy e => by rw [G.names]; exact b.free y hy e, b.own⟩
theorem pe_stuck {pe : Expr} {K : PySem.W.Frag} : PE X pe (tE K fun _ _ => .stuck) := ⟨fun _ _ _ _ _ _ ⟨_, _, _, _, q⟩ => False.elim q⟩
theorem pt_stuck {pe : Expr} {K : PySem.W.Frag} : PT X pe (tT K fun _ _ => .stuck) := ⟨fun _ _ _ _ _ _ ⟨_, _, _, _, q⟩ => False.elim q⟩
end
/-- what is shown of an expression -/
structure Snd4 (Γ : Gam) (e : Ex) (X : Cx) (pe : Expr) : Prop where
  sE : PE X pe (tE X.K (evE Γ e))
  sT : PT X pe (tT X.K (evT Γ e))
  sW : ∀ o vs p, pe = .BoolOp o vs p → PW X pe (tT X.K (evT Γ e))
section
variable {Γ : Gam} {X : Cx} {e : Ex} {pe : Expr}
theorem snd_val (p : PE X pe (tE X.K (evE Γ e))) (hp : plainT pe = true) (et : ∀ σ h, evT Γ e σ h = (evE Γ e σ h).bind trD) : Snd4 Γ e X pe where
  sE := p
  sT := by
    have := pt_valD p hp
    rw [show evT Γ e = fun σ h => (evE Γ e σ h).bind trD from funext fun σ => funext fun h => et σ h]
    exact this
  sW := fun o vs q h => by subst h; exact Bool.noConfusion hp
theorem snd_no (p : PE X pe (tE X.K (evE Γ e))) (nb : ∀ o vs p, pe ≠ .BoolOp o vs p) (et : ∀ σ h, evT Γ e σ h = .stuck) : Snd4 Γ e X pe where
  sE := p
  sT := by
    rw [show evT Γ e = fun _ _ => .stuck from funext fun σ => funext fun h => et σ h]
    exact pt_stuck
  sW := fun o vs q h => absurd h (nb o vs q)
theorem snd_t (p : PE X pe (tE X.K (evE Γ e))) (t : PT X pe (tT X.K (evT Γ e))) (nb : ∀ o vs p, pe ≠ .BoolOp o vs p) : Snd4 Γ e X pe where
  sE := p
  sT := t
  sW := fun o vs q h => absurd h (nb o vs q)
theorem snd_b {o : BoolOp} {vs : List Expr} {q : Pos} (p : PE X (.BoolOp o vs q) (tE X.K (evE Γ e))) (t : PW X (.BoolOp o vs q) (tT X.K (evT Γ e))) : Snd4 Γ e X (.BoolOp o vs q) where
  sE := p
  sT := t.pt
  sW := fun _ _ _ _ => t
end
def Snd (Γ : Gam) (e : Ex) : Prop := ∀ (c : Ctx) (X : Cx) (pe : Expr), Good c Γ X → chkE e c pe = true → Snd4 Γ e X pe
structure SndsR (Γ : Gam) (es : Exs) : Prop where
  a : ∀ (c : Ctx) (X : Cx) (ps : List Expr), Good c Γ X → chkEs es c ps = true → PA X ps (tA X.K (evEs Γ es)) ∧ noStars ps = true ∧ ∀ σ h ds h', evEs Γ es σ h = .ok ds h' → ds.length = ps.length
  k : ∀ (c : Ctx) (X : Cx) (ks : List Keyword), Good c Γ X → chkKs es c ks = true → PK X ks (tA X.K (evEs Γ es)) ∧ ∀ σ h ds h', evEs Γ es σ h = .ok ds h' → ds.length = ks.length
  t : ∀ (c : Ctx) (X : Cx) (ps : List Expr), Good c Γ X → chkTs es c ps = true → PTs X ps (tT X.K (evTs Γ es))
theorem restOf_pw {X : Cx} {t : TT} {o : BoolOp} {b : Expr} {r : List Expr} {p : Pos} (ho : o = .And ∨ o = .Or) (h1 : PT X (restOf o b r p) t) (h2 : ∀ o' vs q, restOf o b r p = .BoolOp o' vs q → PW X (restOf o b r p) t) : PW X (.BoolOp o (b :: r) p) t := by
  cases r with
  | nil =>
    rcases ho with rfl | rfl
    · exact pw_and1 h1
    · exact pw_or1 h1
  | cons y r => exact h2 _ _ _ rfl
theorem restOf_pe {X : Cx} {t : TE} {o : BoolOp} {b : Expr} {r : List Expr} {p : Pos} (h1 : PE X (restOf o b r p) t) : PE X (.BoolOp o (b :: r) p) t := by
  cases r with
  | nil => exact pe_one h1
  | cons y r => exact h1
theorem sndO {Γ : Gam} {e : Eo} (p : ∀ a, e = .some a → Snd Γ a) (c : Ctx) (X : Cx) (o : Option Expr) (G : Good c Γ X) (h : chkO e c o = true) : PO X o (tP X.K (evO Γ e)) := by
  cases e with
  | none =>
    cases o with
    | none => exact po_noneD
    | some q => exact Bool.noConfusion (show false = true from h)
  | some a =>
    cases o with
    | none => exact Bool.noConfusion (show false = true from h)
    | some q => exact po_someD (p a rfl c X q G h).sE

/-! Mini 13: every expression of the small language is sound. -/

theorem and2 {a b : Bool} (h : (a && b) = true) : a = true ∧ b = true := by rwa [Bool.and_eq_true] at h

theorem snd_v (Γ : Gam) (i : Nat) : Snd Γ (.v i) := fun c X pe G h => by
  have h2 : (match gNm pe with
    | some x => decide (c.N[i]? = some x) && isVis c x
    | none => false) = true := h
  clear h
  split at h2
  · rename_i x e
    obtain ⟨p, rfl⟩ := gNm_eq e
    obtain ⟨a, b⟩ := and2 h2
    have v := isVis_ok G b
    refine snd_val (pe_varD (by rw [G.N]; exact of_decide_eq_true a) v.1 v.2.1 v.2.2) rfl fun σ h => ?_
    show (match σ[i]? with
      | some (some d) => trD d h
      | _ => Res.stuck) = Res.bind (match σ[i]? with
      | some (some d) => Res.ok d h
      | _ => Res.stuck) trD
    split <;> rfl
  · cases h2
theorem snd_cst {Γ : Gam} {e : Ex} {d : D} (he : evE Γ e = fun _ h => .ok d h) (ht : ∀ σ h, evT Γ e σ h = .stuck) (hc : ∀ c (X : Cx) pe, chkE e c pe = true → (∃ k p cc, pe = .Constant cc k p) ∧ ∃ v, PE X pe (tC v) ∧ ∀ H ρ M, RD X.K H ρ M d v) : Snd Γ e := fun c X pe G h => by
  obtain ⟨⟨k, p, cc, rfl⟩, v, q, r⟩ := hc c X pe h
  refine snd_no (by rw [he]; exact pe_constD q r) (fun o vs p z => by cases z) ht
theorem snd_non (Γ : Gam) : Snd Γ .non := snd_cst (d := .non) rfl (fun _ _ => rfl) fun c X pe h => by
  have h2 : (match gCst pe with
    | some .none => true
    | _ => false) = true := h
  clear h
  split at h2
  · rename_i e
    obtain ⟨k, p, rfl⟩ := gCst_eq e
    exact ⟨⟨_, _, _, rfl⟩, _, pe_non, fun _ _ _ => .non⟩
  · cases h2
theorem snd_int (Γ : Gam) (i : Int) : Snd Γ (.int i) := snd_cst (d := .int i) rfl (fun _ _ => rfl) fun c X pe h => by
  have h2 : (match gCst pe with
    | some (.int d) => decide (i = d)
    | _ => false) = true := h
  clear h
  split at h2
  · rename_i d e
    obtain ⟨k, p, rfl⟩ := gCst_eq e
    have := of_decide_eq_true h2
    subst this
    exact ⟨⟨_, _, _, rfl⟩, _, pe_int, fun _ _ _ => .int _⟩
  · cases h2
theorem snd_str (Γ : Gam) (i : Str) : Snd Γ (.str i) := snd_cst (d := .str i) rfl (fun _ _ => rfl) fun c X pe h => by
  have h2 : (match gCst pe with
    | some (.str d) => decide (i = d)
    | _ => false) = true := h
  clear h
  split at h2
  · rename_i d e
    obtain ⟨k, p, rfl⟩ := gCst_eq e
    have := of_decide_eq_true h2
    subst this
    exact ⟨⟨_, _, _, rfl⟩, _, pe_str, fun _ _ _ => .str _⟩
  · cases h2
theorem snd_bl (Γ : Gam) (i : Bool) : Snd Γ (.bl i) := fun c X pe G h => by
  have h2 : (match gCst pe with
    | some (.bool d) => decide (i = d)
    | _ => false) = true := h
  clear h
  split at h2
  · rename_i d e
    obtain ⟨k, p, rfl⟩ := gCst_eq e
    have := of_decide_eq_true h2
    subst this
    exact snd_val (pe_constD pe_bl fun _ _ _ => .bl _) rfl fun _ _ => rfl
  · cases h2
theorem snd_glob (Γ : Gam) (g : Nat) : Snd Γ (.glob g) := fun c X pe G h => by
  have h2 : (match gNm pe with
    | some x => decide (c.glm[g]? = some x) && isGl c x
    | none => false) = true := h
  clear h
  split at h2
  · rename_i x e
    obtain ⟨p, rfl⟩ := gNm_eq e
    obtain ⟨a, b⟩ := and2 h2
    obtain ⟨gl, db⟩ := isGl_ok G b
    refine snd_no ?_ (fun o vs p z => by cases z) (fun _ _ => rfl)
    cases e2 : Γ.gl g with
    | none =>
      have : evE Γ (.glob g) = fun _ _ => .stuck := by
        funext σ h
        show (match Γ.gl g with
          | some d => Res.ok d h
          | none => Res.stuck) = _
        rw [e2]
      rw [this]
      exact pe_stuck
    | some d =>
      have : evE Γ (.glob g) = fun _ h => .ok d h := by
        funext σ h
        show (match Γ.gl g with
          | some d => Res.ok d h
          | none => Res.stuck) = _
        rw [e2]
      rw [this]
      obtain ⟨y, u, v, h1, h2, h3, h4⟩ := G.gl g d e2
      have := of_decide_eq_true a
      rw [this] at h1
      cases h1
      exact pe_constD (pe_glob gl h2 h3 db) h4
  · cases h2
theorem snd_op2 {Γ : Gam} {o : Op2} {a b : Ex} (pa : Snd Γ a) (pb : Snd Γ b) : Snd Γ (.op2 o a b) := fun c X pe G h => by
  have h2 : (match gBin pe with
    | some (l, po, r) => opB o po && chkE a c l && chkE b c r
    | none => false) = true := h
  clear h
  split at h2
  · rename_i l po r e
    obtain ⟨p, rfl⟩ := gBin_eq e
    obtain ⟨h1, h3⟩ := and2 h2
    obtain ⟨h1, h4⟩ := and2 h1
    exact snd_no (pe_opD (opR_of o po h1) (pa c X l G h4).sE (pb c X r G h3).sE) (fun o vs p z => by cases z) (fun _ _ => rfl)
  · cases h2
theorem snd_neg {Γ : Gam} {a : Ex} (pa : Snd Γ a) : Snd Γ (.neg a) := fun c X pe G h => by
  have h2 : (match gUn pe with
    | some (.USub, x) => chkE a c x
    | _ => false) = true := h
  clear h
  split at h2
  · rename_i x e
    obtain ⟨p, rfl⟩ := gUn_eq e
    exact snd_no (pe_negD (pa c X x G h2).sE) (fun o vs p z => by cases z) (fun _ _ => rfl)
  · cases h2
theorem snd_cmp {Γ : Gam} {o : Cm} {a b : Ex} (pa : Snd Γ a) (pb : Snd Γ b) : Snd Γ (.cmp o a b) := fun c X pe G h => by
  have h2 : (match gCmp pe with
    | some (x, [p], [y]) => cmB o p && !behindInMarks p y && chkE a c x && chkE b c y
    | _ => false) = true := h
  clear h
  split at h2
  · rename_i x q y e
    obtain ⟨p, rfl⟩ := gCmp_eq e
    obtain ⟨h1, h3⟩ := and2 h2
    obtain ⟨h1, h4⟩ := and2 h1
    obtain ⟨h1, h5⟩ := and2 h1
    have h5 : behindInMarks q y = false := by simpa using h5
    exact snd_t (pe_cmpD G.units h1 h5 (pa c X x G h4).sE (pb c X y G h3).sE) (pt_cmpD G.units h1 h5 (pa c X x G h4).sE (pb c X y G h3).sE) (fun o vs p z => by cases z)
  · cases h2
theorem snd_chain {Γ : Gam} {o1 o2 : Cm} {a b d : Ex} (pa : Snd Γ a) (pb : Snd Γ b) (pd : Snd Γ d) : Snd Γ (.chain o1 o2 a b d) := fun c X pe G h => by
  have h2 : (match gCmp pe with
    | some (x, [p, q], [y, z]) => cmB o1 p && (cmB o2 q && !behindInMarks q z) && chkE a c x && chkE b c y && chkE d c z
    | _ => false) = true := h
  clear h
  split at h2
  · rename_i x q1 q2 y z e
    obtain ⟨p, rfl⟩ := gCmp_eq e
    obtain ⟨h1, h3⟩ := and2 h2
    obtain ⟨h1, h4⟩ := and2 h1
    obtain ⟨h1, h5⟩ := and2 h1
    obtain ⟨h1, h6⟩ := and2 h1
    obtain ⟨h6, h7⟩ := and2 h6
    have h7 : behindInMarks q2 z = false := by simpa using h7
    exact snd_t (pe_chainD G.units h1 h6 h7 (pa c X x G h5).sE (pb c X y G h4).sE (pd c X z G h3).sE) (pt_chainD G.units h1 h6 h7 (pa c X x G h5).sE (pb c X y G h4).sE (pd c X z G h3).sE) (fun o vs p z => by cases z)
  · cases h2
theorem snd_isN {Γ : Gam} {a : Ex} (pa : Snd Γ a) : Snd Γ (.isN a) := fun c X pe G h => by
  have h2 : (match gCmp pe with
    | some (x, [.Is], [y]) => (match gCst y with | some .none => true | _ => false) && chkE a c x
    | _ => false) = true := h
  clear h
  split at h2
  · rename_i x y e
    obtain ⟨p, rfl⟩ := gCmp_eq e
    obtain ⟨h1, h3⟩ := and2 h2
    split at h1
    · rename_i e2
      obtain ⟨k, q, rfl⟩ := gCst_eq e2
      exact snd_t (pe_isND (pa c X x G h3).sE) (pt_isND (pa c X x G h3).sE) (fun o vs p z => by cases z)
    · cases h1
  · cases h2
theorem snd_notN {Γ : Gam} {a : Ex} (pa : Snd Γ a) : Snd Γ (.notN a) := fun c X pe G h => by
  have h2 : (match gCmp pe with
    | some (x, [.IsNot], [y]) => (match gCst y with | some .none => true | _ => false) && chkE a c x
    | _ => false) = true := h
  clear h
  split at h2
  · rename_i x y e
    obtain ⟨p, rfl⟩ := gCmp_eq e
    obtain ⟨h1, h3⟩ := and2 h2
    split at h1
    · rename_i e2
      obtain ⟨k, q, rfl⟩ := gCst_eq e2
      exact snd_t (pe_notND (pa c X x G h3).sE) (pt_notND (pa c X x G h3).sE) (fun o vs p z => by cases z)
    · cases h1
  · cases h2
theorem snd_isB {Γ : Gam} {ng : Bool} {a : Ex} {b : Bool} (pa : Snd Γ a) : Snd Γ (.isB ng a b) := fun c X pe G h => by
  have h2 : (match gCmp pe with
    | some (x, [o], [y]) => isBop ng o && (match gCst y with | some (.bool d) => decide (b = d) | _ => false) && chkE a c x
    | _ => false) = true := h
  clear h
  split at h2
  · rename_i x o y e
    obtain ⟨p, rfl⟩ := gCmp_eq e
    obtain ⟨h1, h3⟩ := and2 h2
    obtain ⟨h1, h4⟩ := and2 h1
    split at h4
    · rename_i d e2
      obtain ⟨k, q, rfl⟩ := gCst_eq e2
      have := of_decide_eq_true h4
      subst this
      cases ng <;> cases o <;> first | exact Bool.noConfusion h1 | skip
      · exact snd_t (pe_isBD (pa c X x G h3).sE) (pt_isBD (pa c X x G h3).sE) (fun o vs p z => by cases z)
      · exact snd_t (pe_notBD (pa c X x G h3).sE) (pt_notBD (pa c X x G h3).sE) (fun o vs p z => by cases z)
    · cases h4
  · cases h2
theorem snd_rev {Γ : Gam} {a : Ex} (pa : Snd Γ a) : Snd Γ (.rev a) := fun c X pe G h => by
  have h2 : (match gRev pe with
    | some x => chkE a c x
    | none => false) = true := h
  clear h
  split at h2
  · rename_i x e
    obtain ⟨k, p1, p2, p3, p, rfl⟩ := gRev_eq e
    exact snd_no (pe_revD (pa c X x G h2).sE) (fun o vs p z => by cases z) (fun _ _ => rfl)
  · cases h2
theorem snd_band {Γ : Gam} {a b : Ex} (pa : Snd Γ a) (pb : Snd Γ b) : Snd Γ (.band a b) := fun c X pe G h => by
  have h2 : (match gBool pe with
    | some (.And, x :: y :: r, p) => chkE a c x && chkE b c (restOf .And y r p)
    | _ => false) = true := h
  clear h
  split at h2
  · rename_i x y r p e
    have e2 := gBool_eq e
    subst e2
    obtain ⟨h1, h3⟩ := and2 h2
    have A := pa c X x G h1
    have B := pb c X _ G h3
    exact snd_b (pe_andD A.sE (restOf_pe B.sE)) (pw_andD A.sT (restOf_pw (.inl rfl) B.sT B.sW))
  · cases h2
theorem snd_bor {Γ : Gam} {a b : Ex} (pa : Snd Γ a) (pb : Snd Γ b) : Snd Γ (.bor a b) := fun c X pe G h => by
  have h2 : (match gBool pe with
    | some (.Or, x :: y :: r, p) => chkE a c x && chkE b c (restOf .Or y r p)
    | _ => false) = true := h
  clear h
  split at h2
  · rename_i x y r p e
    have e2 := gBool_eq e
    subst e2
    obtain ⟨h1, h3⟩ := and2 h2
    have A := pa c X x G h1
    have B := pb c X _ G h3
    exact snd_b (pe_orD A.sE (restOf_pe B.sE)) (pw_orD A.sT (restOf_pw (.inr rfl) B.sT B.sW))
  · cases h2
theorem snd_bnot {Γ : Gam} {a : Ex} (pa : Snd Γ a) : Snd Γ (.bnot a) := fun c X pe G h => by
  have h2 : (match gUn pe with
    | some (.Not, x) => chkE a c x
    | _ => false) = true := h
  clear h
  split at h2
  · rename_i x e
    obtain ⟨p, rfl⟩ := gUn_eq e
    exact snd_t (pe_notD (pa c X x G h2).sE) (pt_notD (pa c X x G h2).sT) (fun o vs p z => by cases z)
  · cases h2
theorem snd_ifx {Γ : Gam} {t a b : Ex} (pt : Snd Γ t) (pa : Snd Γ a) (pb : Snd Γ b) : Snd Γ (.ifx t a b) := fun c X pe G h => by
  have h2 : (match gIf pe with
    | some (x, y, z) => chkE t c x && chkE a c y && chkE b c z
    | none => false) = true := h
  clear h
  split at h2
  · rename_i x y z e
    obtain ⟨p, rfl⟩ := gIf_eq e
    obtain ⟨h1, h3⟩ := and2 h2
    obtain ⟨h1, h4⟩ := and2 h1
    exact snd_no (pe_ifD (pt c X x G h1).sT (pa c X y G h4).sE (pb c X z G h3).sE) (fun o vs p z => by cases z) (fun _ _ => rfl)
  · cases h2
theorem snd_tup {Γ : Gam} {es : Exs} (p : SndsR Γ es) : Snd Γ (.tup es) := fun c X pe G h => by
  have h2 : (match gTup pe with
    | some ps => chkEs es c ps
    | none => false) = true := h
  clear h
  split at h2
  · rename_i ps e
    obtain ⟨k, q, rfl⟩ := gTup_eq e
    exact snd_no (pe_tupD (p.a c X ps G h2).1) (fun o vs p z => by cases z) (fun _ _ => rfl)
  · cases h2
theorem snd_lst {Γ : Gam} {es : Exs} (p : SndsR Γ es) : Snd Γ (.lst es) := fun c X pe G h => by
  have h2 : (match gLst pe with
    | some ps => chkEs es c ps
    | none => false) = true := h
  clear h
  split at h2
  · rename_i ps e
    obtain ⟨q, rfl⟩ := gLst_eq e
    exact snd_no (pe_lstD (p.a c X ps G h2).1) (fun o vs p z => by cases z) (fun _ _ => rfl)
  · cases h2
theorem snd_lstM {Γ : Gam} {es : Exs} (p : SndsR Γ es) : Snd Γ (.lstM es) := fun c X pe G h => by
  have h2 : (match gLst pe with
    | some ps => chkEs es c ps
    | none => false) = true := h
  clear h
  split at h2
  · rename_i ps e
    obtain ⟨q, rfl⟩ := gLst_eq e
    exact snd_no (pe_lstMD (p.a c X ps G h2).1) (fun o vs p z => by cases z) (fun _ _ => rfl)
  · cases h2
theorem snd_ix {Γ : Gam} {a i : Ex} (pa : Snd Γ a) (pi : Snd Γ i) : Snd Γ (.ix a i) := fun c X pe G h => by
  have h2 : (match gSub pe with
    | some (x, y) => plainIx y && chkE a c x && chkE i c y
    | none => false) = true := h
  clear h
  split at h2
  · rename_i x y e
    obtain ⟨p, rfl⟩ := gSub_eq e
    obtain ⟨h1, h3⟩ := and2 h2
    obtain ⟨h1, h4⟩ := and2 h1
    exact snd_no (pe_ixD (pa c X x G h4).sE (pi c X y G h3).sE (plainIx_ok h1)) (fun o vs p z => by cases z) (fun _ _ => rfl)
  · cases h2
theorem snd_slice {Γ : Gam} {a : Ex} {lo hi : Eo} (pa : Snd Γ a) (pl : ∀ e, lo = .some e → Snd Γ e) (ph : ∀ e, hi = .some e → Snd Γ e) : Snd Γ (.slice a lo hi) := fun c X pe G h => by
  have h2 : (match gSub pe with
    | some (x, y) => (match gSlc y with
      | some (l, u) => chkE a c x && chkO lo c l && chkO hi c u
      | none => false)
    | none => false) = true := h
  clear h
  split at h2
  · rename_i x y e
    obtain ⟨p, rfl⟩ := gSub_eq e
    split at h2
    · rename_i l u e2
      obtain ⟨q, rfl⟩ := gSlc_eq e2
      obtain ⟨h1, h3⟩ := and2 h2
      obtain ⟨h1, h4⟩ := and2 h1
      exact snd_no (pe_sliceD (pa c X x G h1).sE (sndO pl c X l G h4) (sndO ph c X u G h3)) (fun o vs p z => by cases z) (fun _ _ => rfl)
    · cases h2
  · cases h2
theorem snd_call {Γ : Gam} {f : Nat} {es : Exs} (p : SndsR Γ es) (hn : es = .nil ∨ es ≠ .nil) : Snd Γ (.call f es) := fun c X pe G h => by
  have h2 : (match gCall pe with
    | some (x, ps, []) => decide (c.fnm[f]? = some x) && isGl c x && chkEs es c ps
    | _ => false) = true := h
  clear h
  split at h2
  · rename_i x ps e
    obtain ⟨p1, p2, rfl⟩ := gCall_eq e
    obtain ⟨h1, h3⟩ := and2 h2
    obtain ⟨h1, h4⟩ := and2 h1
    obtain ⟨gl, db⟩ := isGl_ok G h4
    obtain ⟨A, ns, _⟩ := p.a c X ps G h3
    have et : ∀ σ h, evT Γ (.call f es) σ h = (evE Γ (.call f es) σ h).bind trD := fun σ h => by
      show (evEs Γ es σ h).bind (fun ds h1 => match Γ.fn f with
        | some den => (den ds h1).bind trD
        | none => Res.stuck) = ((evEs Γ es σ h).bind fun ds h1 => match Γ.fn f with
        | some den => den ds h1
        | none => Res.stuck).bind trD
      cases evEs Γ es σ h with
      | stuck => rfl
      | err _ _ => rfl
      | ok ds h1 => cases Γ.fn f <;> rfl
    refine snd_val ?_ rfl et
    cases e2 : Γ.fn f with
    | none =>
      have : evE Γ (.call f es) = fun σ h => (evEs Γ es σ h).bind fun _ _ => .stuck := by
        funext σ h
        show ((evEs Γ es σ h).bind fun ds h1 => match Γ.fn f with
          | some den => den ds h1
          | none => Res.stuck) = _
        rw [e2]
      rw [this]
      have : (fun σ h => (evEs Γ es σ h).bind fun _ _ => (Res.stuck : Res D)) = fun _ _ => .stuck := by
        funext σ h
        cases evEs Γ es σ h <;> rfl
      rw [this]
      exact pe_stuck
    | some den =>
      have : evE Γ (.call f es) = fun σ h => (evEs Γ es σ h).bind fun ds h1 => den ds h1 := by
        funext σ h
        show ((evEs Γ es σ h).bind fun ds h1 => match Γ.fn f with
          | some den => den ds h1
          | none => Res.stuck) = _
        rw [e2]
      rw [this]
      obtain ⟨y, h5, ok⟩ := G.fn f den e2
      rw [of_decide_eq_true h1] at h5
      cases h5
      cases ps with
      | nil =>
        cases es with
        | nil => exact pe_call0D ok gl db
        | cons a b => exact Bool.noConfusion (show false = true from h3)
      | cons q qs => exact pe_callD ok gl db A ns
  · cases h2
theorem snd_callk {Γ : Gam} {f : Nat} {es kes : Exs} {perm : List Nat} (p : SndsR Γ es) (pk : SndsR Γ kes) : Snd Γ (.callk f es kes perm) := fun c X pe G h => by
  have h2 : (match gCall pe with
    | some (x, ps, k :: ks) => decide (c.fnm[f]? = some x) && isGl c x && decide ((f, ps.length, (k :: ks).filterMap (·.arg), perm) ∈ c.kw) && decide ((k :: ks).map (·.arg) = ((k :: ks).filterMap (·.arg)).map some) && chkEs es c ps && chkKs kes c (k :: ks)
    | _ => false) = true := h
  clear h
  split at h2
  · rename_i x ps k ks e
    obtain ⟨p1, p2, rfl⟩ := gCall_eq e
    obtain ⟨h1, h3⟩ := and2 h2
    obtain ⟨h1, h4⟩ := and2 h1
    obtain ⟨h1, h5⟩ := and2 h1
    obtain ⟨h1, h6⟩ := and2 h1
    obtain ⟨h1, h7⟩ := and2 h1
    obtain ⟨gl, db⟩ := isGl_ok G h7
    obtain ⟨A, ns, l2⟩ := p.a c X ps G h4
    obtain ⟨B, l3⟩ := pk.k c X (k :: ks) G h3
    have et : ∀ σ h, evT Γ (.callk f es kes perm) σ h = (evE Γ (.callk f es kes perm) σ h).bind trD := fun σ h => by
      show (evEs Γ es σ h).bind (fun ds h1 => (evEs Γ kes σ h1).bind fun zs h2 => match Γ.fn f with
        | some den => (den (permV perm D.non ds zs) h2).bind trD
        | none => Res.stuck) = ((evEs Γ es σ h).bind fun ds h1 => (evEs Γ kes σ h1).bind fun zs h2 => match Γ.fn f with
        | some den => den (permV perm D.non ds zs) h2
        | none => Res.stuck).bind trD
      cases evEs Γ es σ h with
      | stuck => rfl
      | err _ _ => rfl
      | ok ds h1 =>
        show (evEs Γ kes σ h1).bind _ = ((evEs Γ kes σ h1).bind _).bind trD
        cases evEs Γ kes σ h1 with
        | stuck => rfl
        | err _ _ => rfl
        | ok zs h2 => cases Γ.fn f <;> rfl
    refine snd_val ?_ rfl et
    cases e2 : Γ.fn f with
    | none =>
      have : evE Γ (.callk f es kes perm) = fun _ _ => .stuck := by
        funext σ h
        show ((evEs Γ es σ h).bind fun ds h1 => (evEs Γ kes σ h1).bind fun zs h2 => match Γ.fn f with
          | some den => den (permV perm D.non ds zs) h2
          | none => Res.stuck) = _
        rw [e2]
        cases evEs Γ es σ h with
        | stuck => rfl
        | err _ _ => rfl
        | ok ds h1 =>
          show (evEs Γ kes σ h1).bind _ = _
          cases evEs Γ kes σ h1 <;> rfl
      rw [this]
      exact pe_stuck
    | some den =>
      have : evE Γ (.callk f es kes perm) = fun σ h => (evEs Γ es σ h).bind fun ds h1 => (evEs Γ kes σ h1).bind fun zs h2 => den (permV perm D.non ds zs) h2 := by
        funext σ h
        show ((evEs Γ es σ h).bind fun ds h1 => (evEs Γ kes σ h1).bind fun zs h2 => match Γ.fn f with
          | some den => den (permV perm D.non ds zs) h2
          | none => Res.stuck) = _
        rw [e2]
      rw [this]
      obtain ⟨y, h8, ok⟩ := G.kw f _ _ perm den (of_decide_eq_true h6) e2
      rw [of_decide_eq_true h1] at h8
      cases h8
      cases ps with
      | nil =>
        cases es with
        | nil =>
          exact pe_callk0D ok gl db B (of_decide_eq_true h5) l3
        | cons a b => exact Bool.noConfusion (show false = true from h4)
      | cons q qs => exact pe_callkD ok gl db A B ns (of_decide_eq_true h5) rfl l2 l3
  · cases h2
theorem snd_isi {Γ : Gam} {a : Ex} {t : Ty} (pa : Snd Γ a) : Snd Γ (.isi a t) := fun c X pe G h => by
  have h2 : (match gCall pe with
    | some (x, [y, z], []) => (match gNm z with
      | some w => decide (x = ("isinstance" : Str)) && isBi c x && decide (w = tyNm t) && isBi c w && notStar y && chkE a c y
      | none => false)
    | _ => false) = true := h
  clear h
  split at h2
  · rename_i x y z e
    obtain ⟨p1, p2, rfl⟩ := gCall_eq e
    split at h2
    · rename_i w e2
      obtain ⟨p3, rfl⟩ := gNm_eq e2
      obtain ⟨h1, h3⟩ := and2 h2
      obtain ⟨h1, h4⟩ := and2 h1
      obtain ⟨h1, h5⟩ := and2 h1
      obtain ⟨h1, h6⟩ := and2 h1
      obtain ⟨h1, h7⟩ := and2 h1
      have ex := of_decide_eq_true h1
      subst ex
      obtain ⟨g1, m1⟩ := isBi_ok G h7
      obtain ⟨g2, m2⟩ := isBi_ok G h5
      refine snd_val (pe_isiD (of_decide_eq_true h6) g1 m1 g2 m2 (pa c X y G h3).sE h4) rfl fun σ h => ?_
      show (evE Γ a σ h).bind (fun x h1 => .guard (openD h1 x) (.ok (tyD t x) h1)) = ((evE Γ a σ h).bind fun x h1 => .guard (openD h1 x) (.ok (.bl (tyD t x)) h1)).bind trD
      cases evE Γ a σ h with
      | stuck => rfl
      | err _ _ => rfl
      | ok d h1 =>
        show Res.guard (openD h1 d) _ = (Res.guard (openD h1 d) _).bind trD
        cases openD h1 d <;> rfl
    · cases h2
  · cases h2
theorem snd_isiT {Γ : Gam} {a : Ex} {ts : List Ty} (pa : Snd Γ a) : Snd Γ (.isiT a ts) := fun c X pe G h => by
  have h2 : (match gCall pe with
    | some (x, [y, z], []) => (match gTup z with
      | some ws => decide (x = ("isinstance" : Str)) && isBi c x && chkTys c ts ws && decide (ts.length ≤ 100) && notStar y && chkE a c y
      | none => false)
    | _ => false) = true := h
  clear h
  split at h2
  · rename_i x y z e
    obtain ⟨p1, p2, rfl⟩ := gCall_eq e
    split at h2
    · rename_i ws e2
      obtain ⟨k, p3, rfl⟩ := gTup_eq e2
      obtain ⟨h1, h3⟩ := and2 h2
      obtain ⟨h1, h4⟩ := and2 h1
      obtain ⟨h1, h5⟩ := and2 h1
      obtain ⟨h1, h6⟩ := and2 h1
      obtain ⟨h1, h7⟩ := and2 h1
      have ex := of_decide_eq_true h1
      subst ex
      obtain ⟨g1, m1⟩ := isBi_ok G h7
      refine snd_val (pe_isiTD (chkTys_ok G h6) (by have := of_decide_eq_true h5; rw [sz]; omega) g1 m1 (pa c X y G h3).sE h4) rfl fun σ h => ?_
      show (evE Γ a σ h).bind (fun x h1 => .guard (openD h1 x) (.ok (ts.any fun t => tyD t x) h1)) = ((evE Γ a σ h).bind fun x h1 => .guard (openD h1 x) (.ok (.bl (ts.any fun t => tyD t x)) h1)).bind trD
      cases evE Γ a σ h with
      | stuck => rfl
      | err _ _ => rfl
      | ok d h1 =>
        show Res.guard (openD h1 d) _ = (Res.guard (openD h1 d) _).bind trD
        cases openD h1 d <;> rfl
    · cases h2
  · cases h2
theorem snd_bi {Γ : Gam} {b : Bi} {es : Exs} (p : SndsR Γ es) : Snd Γ (.bi b es) := fun c X pe G h => by
  have h2 : (match gCall pe with
    | some (x, p :: ps, []) => decide (x = biName b) && (decide (b ≠ .repr) || c.rp) && isBi c x && chkEs es c (p :: ps)
    | _ => false) = true := h
  clear h
  split at h2
  · rename_i x q qs e
    obtain ⟨p1, p2, rfl⟩ := gCall_eq e
    obtain ⟨h1, h3⟩ := and2 h2
    obtain ⟨h1, h4⟩ := and2 h1
    obtain ⟨h1, h5⟩ := and2 h1
    obtain ⟨g1, m1⟩ := isBi_ok G h4
    obtain ⟨A, ns, _⟩ := p.a c X (q :: qs) G h3
    refine snd_val (pe_biD G.calm G.units (fun z => G.gd (by
      rcases Bool.or_eq_true _ _ ▸ h5 with h5 | h5
      · exact absurd z (of_decide_eq_true h5)
      · exact h5)) (of_decide_eq_true h1) g1 m1 A ns) rfl fun σ h => ?_
    show (evEs Γ es σ h).bind (fun ds h1 => (biD b ds h1).bind trD) = ((evEs Γ es σ h).bind fun ds h1 => biD b ds h1).bind trD
    cases evEs Γ es σ h <;> rfl
  · cases h2
theorem snd_meth {Γ : Gam} {m : Mt} {r : Ex} {es : Exs} (pr : Snd Γ r) (p : SndsR Γ es) : Snd Γ (.meth m r es) := fun c X pe G h => by
  have h2 : (match gMeth pe with
    | some (o, nm, p :: ps, ap, cp) => decide (nm = mtNm m) && decide ((p :: ps).length < 30) && notCall o && (ap.endLine == cp.line) && chkE r c o && chkEs es c (p :: ps)
    | _ => false) = true := h
  clear h
  split at h2
  · rename_i o nm q qs ap cp e
    have e2 := gMeth_eq e
    subst e2
    obtain ⟨h1, h3⟩ := and2 h2
    obtain ⟨h1, h4⟩ := and2 h1
    obtain ⟨h1, h5⟩ := and2 h1
    obtain ⟨h1, h6⟩ := and2 h1
    obtain ⟨h1, h7⟩ := and2 h1
    obtain ⟨A, ns, _⟩ := p.a c X (q :: qs) G h3
    exact snd_no (pe_mtD (of_decide_eq_true h1) (pr c X o G h4).sE A ns (of_decide_eq_true h7) h6 h5) (fun o vs p z => by cases z) (fun _ _ => rfl)
  · cases h2
/-- the parts of a comprehension -/
theorem comp_parts {Γ : Gam} {mu : Bool} {own : List (Str × Nat)} {tg : Tg} {it : It} {cond : Exs} {elt : Ex} (pit : ∀ (c : Ctx) (X : Cx) (pe tg : Expr), Good c Γ X → chkI it c tg pe = true → PI X tg pe (tI X.K (evI Γ it))) (pc : SndsR Γ cond) (pe : Snd Γ elt) {c : Ctx} {X : Cx} {e : Expr} (G : Good c Γ X) (h : chkE (.comp mu own tg it cond elt) c e = true) :
    ∃ pelt ptg pit ifs sc p, e = .ListComp pelt [⟨ptg, pit, ifs, 0⟩] sc p ∧ BlkOk X.N X.env.scope sc own ∧ (∀ i ∈ tgIx tg, i ∈ own.map (·.2)) ∧ notSet pit = true ∧ PI X ptg pit (tI X.K (evI Γ it)) ∧
      (∀ (s : Shared) (H : Hp) (C : Addr) (cl : List (Str × Addr)) (fp : List Addr), PG (X.blk s H sc (compEnvC sc cl C X.env) fp) ptg (tG X.K tg)) ∧
      (∀ (s : Shared) (H : Hp) (C : Addr) (cl : List (Str × Addr)) (fp : List Addr), PTs (X.blk s H sc (compEnvC sc cl C X.env) fp) ifs (tT X.K (evTs Γ cond))) ∧
      (∀ (s : Shared) (H : Hp) (C : Addr) (cl : List (Str × Addr)) (fp : List Addr), PE (X.blk s H sc (compEnvC sc cl C X.env) fp) pelt (tE X.K (evE Γ elt))) := by
  have h2 : (match gLc e with
    | some (pelt, ptg, pit, ifs, sc) => blkC c.N (mkSc c.names) sc own && (tgIx tg).all (fun i => decide (i ∈ own.map (·.2))) && chkTg (blkCtx c sc) tg ptg && notSet pit && chkI it c ptg pit && chkTs cond (blkCtx c sc) ifs && chkE elt (blkCtx c sc) pelt
    | none => false) = true := h
  clear h
  split at h2
  · rename_i pelt ptg pit' ifs sc e2
    obtain ⟨p, rfl⟩ := gLc_eq e2
    obtain ⟨h1, h3⟩ := and2 h2
    obtain ⟨h1, h4⟩ := and2 h1
    obtain ⟨h1, h5⟩ := and2 h1
    obtain ⟨h1, h6⟩ := and2 h1
    obtain ⟨h1, h7⟩ := and2 h1
    obtain ⟨h1, h8⟩ := and2 h1
    have ok := blkC_ok G h1
    have B := fun s H C cl fp => G.blk (sc := sc) ok.kind s H C cl fp
    refine ⟨pelt, ptg, pit', ifs, sc, p, rfl, ok, fun i hi => ?_, h6, pit c X pit' ptg G h5, fun s H C cl fp => chkTg_ok (B s H C cl fp) h7, fun s H C cl fp => pc.t _ _ _ (B s H C cl fp) h4, fun s H C cl fp => (pe _ _ _ (B s H C cl fp) h3).sE⟩
    have := List.all_eq_true.mp h8 i hi
    exact of_decide_eq_true this
  · cases h2
theorem snd_comp {Γ : Gam} {mu : Bool} {own : List (Str × Nat)} {tg : Tg} {it : It} {cond : Exs} {elt : Ex} (pit : ∀ (c : Ctx) (X : Cx) (pe tg : Expr), Good c Γ X → chkI it c tg pe = true → PI X tg pe (tI X.K (evI Γ it))) (pc : SndsR Γ cond) (pe : Snd Γ elt) : Snd Γ (.comp mu own tg it cond elt) := fun c X e G h => by
  obtain ⟨pelt, ptg, pit', ifs, sc, p, rfl, ok, hown, ns, hi, hg, ht, he⟩ := comp_parts pit pc pe G h
  have nd : X.N.Nodup := by rw [G.N]; exact G.nd
  refine snd_no (PE.w (pe_lc G.calm nd hi ok hg ht he (notSet_ok ns)) fun σ H Q q => tLcD hown q) (fun o vs p z => by cases z) (fun _ _ => rfl)
theorem snds_nil (Γ : Gam) : SndsR Γ .nil where
  a := fun c X ps G h => by
    cases ps with
    | nil => exact ⟨pa_nilD, rfl, fun σ h ds h' e => by cases e; rfl⟩
    | cons a b => exact Bool.noConfusion (show false = true from h)
  k := fun c X ps G h => by
    cases ps with
    | nil => exact ⟨pk_nilD, fun σ h ds h' e => by cases e; rfl⟩
    | cons a b => exact Bool.noConfusion (show false = true from h)
  t := fun c X ps G h => by
    cases ps with
    | nil => exact pts_nilD
    | cons a b => exact Bool.noConfusion (show false = true from h)
theorem evEs_len {Γ : Gam} {e : Ex} {es : Exs} {n : Nat} (hn : ∀ σ h ds h', evEs Γ es σ h = .ok ds h' → ds.length = n) : ∀ σ h ds h', evEs Γ (.cons e es) σ h = .ok ds h' → ds.length = n + 1 := by
  intro σ h ds h' q
  have q : ((evE Γ e σ h).bind fun x h1 => (evEs Γ es σ h1).bind fun xs h2 => Res.ok (x :: xs) h2) = .ok ds h' := q
  cases e1 : evE Γ e σ h with
  | stuck => rw [e1] at q; cases q
  | err _ _ => rw [e1] at q; cases q
  | ok d h1 =>
    rw [e1, Res.bind_ok] at q
    cases e2 : evEs Γ es σ h1 with
    | stuck => rw [e2] at q; cases q
    | err _ _ => rw [e2] at q; cases q
    | ok xs h2 =>
      rw [e2, Res.bind_ok] at q
      cases q
      rw [List.length_cons, hn _ _ _ _ e2]
theorem snds_cons {Γ : Gam} {e : Ex} {es : Exs} (p : Snd Γ e) (ps : SndsR Γ es) : SndsR Γ (.cons e es) where
  a := fun c X qs G h => by
    cases qs with
    | nil => exact Bool.noConfusion (show false = true from h)
    | cons q qs =>
      have h : (notStar q && chkE e c q && chkEs es c qs) = true := h
      obtain ⟨h1, h3⟩ := and2 h
      obtain ⟨h1, h4⟩ := and2 h1
      obtain ⟨A, ns, l⟩ := ps.a c X qs G h3
      refine ⟨pa_consD (p c X q G h4).sE A h1, ?_, evEs_len l⟩
      show (notStar q && noStars qs) = true
      rw [h1, ns]
      rfl
  k := fun c X qs G h => by
    cases qs with
    | nil => exact Bool.noConfusion (show false = true from h)
    | cons q qs =>
      have h : (chkE e c q.value && chkKs es c qs) = true := h
      obtain ⟨h1, h3⟩ := and2 h
      obtain ⟨A, l⟩ := ps.k c X qs G h3
      obtain ⟨nm, v, kp⟩ := q
      exact ⟨pk_consD (p c X v G h1).sE A, evEs_len l⟩
  t := fun c X qs G h => by
    match es, qs, h with
    | .nil, [q], h => exact pts_one (p c X q G h).sT
    | .nil, [], h => exact Bool.noConfusion (show false = true from h)
    | .nil, _ :: _ :: _, h => exact Bool.noConfusion (show false = true from h)
    | .cons _ _, [], h => exact Bool.noConfusion (show false = true from h)
    | .cons _ _, [_], h => exact Bool.noConfusion (show false = true from h)
    | .cons _ _, _ :: _ :: _, h => exact Bool.noConfusion (show false = true from h)
theorem snd_lenset {Γ : Gam} {a : Ex} (pa : Snd Γ a) : Snd Γ (.lenset a) := fun c X pe G h => by
  have h2 : (match gNest pe with
    | some (x, y, [z]) => decide (x = ("len" : Str)) && isBi c x && decide (y = ("set" : Str)) && isBi c y && notStar z && chkE a c z
    | _ => false) = true := h
  clear h
  split at h2
  · rename_i x y z e
    obtain ⟨p, p2, q, pos, rfl⟩ := gNest_eq e
    obtain ⟨h1, h3⟩ := and2 h2
    obtain ⟨h1, h4⟩ := and2 h1
    obtain ⟨h1, h5⟩ := and2 h1
    obtain ⟨h1, h6⟩ := and2 h1
    obtain ⟨h1, h7⟩ := and2 h1
    have ex := of_decide_eq_true h1
    have ey := of_decide_eq_true h6
    subst ex ey
    obtain ⟨g1, m1⟩ := isBi_ok G h7
    obtain ⟨g2, m2⟩ := isBi_ok G h5
    exact snd_no (pe_lensetD G.calm g1 m1 g2 m2 (pa c X z G h3).sE h4) (fun o vs p z => by cases z) (fun _ _ => rfl)
  · cases h2
theorem snd_sortset {Γ : Gam} {a : Ex} (pa : Snd Γ a) : Snd Γ (.sortset a) := fun c X pe G h => by
  have h2 : (match gNest pe with
    | some (x, y, [z]) => decide (x = ("sorted" : Str)) && isBi c x && decide (y = ("set" : Str)) && isBi c y && notStar z && chkE a c z
    | _ => false) = true := h
  clear h
  split at h2
  · rename_i x y z e
    obtain ⟨p, p2, q, pos, rfl⟩ := gNest_eq e
    obtain ⟨h1, h3⟩ := and2 h2
    obtain ⟨h1, h4⟩ := and2 h1
    obtain ⟨h1, h5⟩ := and2 h1
    obtain ⟨h1, h6⟩ := and2 h1
    obtain ⟨h1, h7⟩ := and2 h1
    have ex := of_decide_eq_true h1
    have ey := of_decide_eq_true h6
    subst ex ey
    obtain ⟨g1, m1⟩ := isBi_ok G h7
    obtain ⟨g2, m2⟩ := isBi_ok G h5
    exact snd_no (pe_sortsetD G.calm g1 m1 g2 m2 (pa c X z G h3).sE h4) (fun o vs p z => by cases z) (fun _ _ => rfl)
  · cases h2
theorem snd_rngM {Γ : Gam} {a : Ex} (pa : Snd Γ a) : Snd Γ (.rngM a) := fun c X pe G h => by
  have h2 : (match gNest pe with
    | some (x, y, [z]) => decide (x = ("list" : Str)) && isBi c x && decide (y = ("range" : Str)) && isBi c y && notStar z && chkE a c z
    | _ => false) = true := h
  clear h
  split at h2
  · rename_i x y z e
    obtain ⟨p, p2, q, pos, rfl⟩ := gNest_eq e
    obtain ⟨h1, h3⟩ := and2 h2
    obtain ⟨h1, h4⟩ := and2 h1
    obtain ⟨h1, h5⟩ := and2 h1
    obtain ⟨h1, h6⟩ := and2 h1
    obtain ⟨h1, h7⟩ := and2 h1
    have ex := of_decide_eq_true h1
    have ey := of_decide_eq_true h6
    subst ex ey
    obtain ⟨g1, m1⟩ := isBi_ok G h7
    obtain ⟨g2, m2⟩ := isBi_ok G h5
    exact snd_no (pe_rngMD G.calm g1 m1 g2 m2 (pa c X z G h3).sE h4) (fun o vs p z => by cases z) (fun _ _ => rfl)
  · cases h2
theorem snd_rngs {Γ : Gam} {l : Bool} {a b : Ex} (pa : Snd Γ a) (pb : Snd Γ b) : Snd Γ (.rngs l a b) := fun c X pe G h => by
  have h2 : (match gNest pe with
    | some (x, y, [z, w]) => decide (x = if l = true then ("list" : Str) else ("tuple" : Str)) && isBi c x && decide (y = ("range" : Str)) && isBi c y && notStar z && notStar w && chkE a c z && chkE b c w
    | _ => false) = true := h
  clear h
  split at h2
  · rename_i x y z w e
    obtain ⟨p, p2, q, pos, rfl⟩ := gNest_eq e
    obtain ⟨h1, h3⟩ := and2 h2
    obtain ⟨h1, h4⟩ := and2 h1
    obtain ⟨h1, h5⟩ := and2 h1
    obtain ⟨h1, h6⟩ := and2 h1
    obtain ⟨h1, h7⟩ := and2 h1
    obtain ⟨h1, h8⟩ := and2 h1
    obtain ⟨hA, h9⟩ := and2 h1
    have ey := of_decide_eq_true h8
    have ex := of_decide_eq_true hA
    clear hA h1 h2
    subst ey
    obtain ⟨g1, m1⟩ := isBi_ok G h9
    obtain ⟨g2, m2⟩ := isBi_ok G h7
    exact snd_no (pe_rngsD ex G.calm g1 m1 g2 m2 (pa c X z G h4).sE (pb c X w G h3).sE h6 h5) (fun o vs p z => by cases z) (fun _ _ => rfl)
  · cases h2
theorem snd_dct {Γ : Gam} {kvs : List (Str × Int)} : Snd Γ (.dct kvs) := fun c X pe G h => by
  have h2 : (match gDct pe with
    | some (ks, vs) => decide (kvs ≠ []) && decide (kvs.length ≤ 15) && decide (kvs.map (·.1)).Nodup && dctB kvs ks vs
    | none => false) = true := h
  clear h
  split at h2
  · rename_i ks vs e
    obtain ⟨p, rfl⟩ := gDct_eq e
    obtain ⟨h1, h3⟩ := and2 h2
    obtain ⟨h1, h4⟩ := and2 h1
    obtain ⟨h1, h5⟩ := and2 h1
    exact snd_no (pe_dctD (dctB_ok h3) (of_decide_eq_true h1) (of_decide_eq_true h5) (of_decide_eq_true h4)) (fun o vs p z => by cases z) (fun _ _ => rfl)
  · cases h2
theorem snd_dctM {Γ : Gam} : Snd Γ .dctM := fun c X pe G h => by
  have h2 : (match gDct pe with
    | some (ks, vs) => ks.isEmpty && vs.isEmpty
    | none => false) = true := h
  clear h
  split at h2
  · rename_i ks vs e
    obtain ⟨p, rfl⟩ := gDct_eq e
    obtain ⟨h1, h3⟩ := and2 h2
    cases ks with
    | cons a b => cases h1
    | nil =>
      cases vs with
      | cons a b => cases h3
      | nil => exact snd_no pe_dctMD (fun o vs p z => by cases z) (fun _ _ => rfl)
  · cases h2
theorem snd_dget {Γ : Gam} {d k f : Ex} (pd : Snd Γ d) (pk : Snd Γ k) (pf : Snd Γ f) : Snd Γ (.dget d k f) := fun c X pe G h => by
  have h2 : (match gMeth pe with
    | some (o, nm, [p, q], ap, cp) => decide (nm = ("get" : Str)) && notCall o && (ap.endLine == cp.line) && notStar p && notStar q && chkE d c o && chkE k c p && chkE f c q
    | _ => false) = true := h
  clear h
  split at h2
  · rename_i o nm p q ap cp e
    have e2 := gMeth_eq e
    subst e2
    obtain ⟨h1, h3⟩ := and2 h2
    obtain ⟨h1, h4⟩ := and2 h1
    obtain ⟨h1, h5⟩ := and2 h1
    obtain ⟨h1, h6⟩ := and2 h1
    obtain ⟨h1, h7⟩ := and2 h1
    obtain ⟨h1, h8⟩ := and2 h1
    obtain ⟨h1, h9⟩ := and2 h1
    have ex := of_decide_eq_true h1
    subst ex
    exact snd_no (pe_dgetD G.units (pd c X o G h5).sE (pk c X p G h4).sE (pf c X q G h3).sE h9 h8 h7 h6) (fun o vs p z => by cases z) (fun _ _ => rfl)
  · cases h2
theorem noSl_ok {e : Expr} (h : plainIx e = true) : NoSl e := by
  intro o i
  cases e <;> first | exact Bool.noConfusion h | rfl
theorem snd_dix {Γ : Gam} {d k : Ex} (pd : Snd Γ d) (pk : Snd Γ k) : Snd Γ (.dix d k) := fun c X pe G h => by
  have h2 : (match gSub pe with
    | some (a, b) => plainIx b && chkE d c a && chkE k c b
    | none => false) = true := h
  clear h
  split at h2
  · rename_i a b e
    obtain ⟨p, rfl⟩ := gSub_eq e
    obtain ⟨h1, h3⟩ := and2 h2
    obtain ⟨h1, h4⟩ := and2 h1
    exact snd_no (pe_dixD G.units (pd c X a G h4).sE (pk c X b G h3).sE (noSl_ok h1)) (fun o vs p z => by cases z) (fun _ _ => rfl)
  · cases h2
theorem snd_fnv {Γ : Gam} {j : Nat} {x : Str} : Snd Γ (.fnv j x) := fun c X pe G h => by
  have h2 : (match gNm pe with
    | some y => decide (y = x) && decide (c.fnm[j]? = some x) && isGl c x
    | none => false) = true := h
  clear h
  split at h2
  · rename_i y e
    obtain ⟨p, rfl⟩ := gNm_eq e
    obtain ⟨h1, h3⟩ := and2 h2
    obtain ⟨h1, h4⟩ := and2 h1
    have ex := of_decide_eq_true h1
    subst ex
    obtain ⟨gl, db⟩ := isGl_ok G h3
    refine snd_no ?_ (fun o vs p z => by cases z) (fun _ _ => rfl)
    cases e2 : Γ.fn j with
    | none =>
      have : evE Γ (.fnv j y) = fun _ _ => .stuck := by
        funext σ h
        show (match Γ.fn j with
          | some _ => Res.ok (D.fn j y) h
          | none => Res.stuck) = _
        rw [e2]
      rw [this]
      exact pe_stuck
    | some den =>
      have : evE Γ (.fnv j y) = fun _ h => .ok (.fn j y) h := by
        funext σ h
        show (match Γ.fn j with
          | some _ => Res.ok (D.fn j y) h
          | none => Res.stuck) = _
        rw [e2]
      rw [this]
      obtain ⟨x', h5, ok⟩ := G.fn j den e2
      rw [of_decide_eq_true h4] at h5
      cases h5
      obtain ⟨g, fd, ps, k, F, hr, hm, hk, hb, hn, hns⟩ := ok.ex
      exact pe_fnvD gl hm hns db
  · cases h2
theorem snd_callv {Γ : Gam} {i : Nat} {ops : List (Nat × Str)} {es : Exs} (p : SndsR Γ es) : Snd Γ (.callv i ops es) := fun c X pe G h => by
  have h2 : (match gCall pe with
    | some (y, p :: ps, []) => decide (c.N[i]? = some y) && isVis c y && ops.all (fun o => decide (c.fnm[o.1]? = some o.2)) && chkEs es c (p :: ps)
    | _ => false) = true := h
  clear h
  split at h2
  · rename_i y q qs e
    obtain ⟨p1, p2, rfl⟩ := gCall_eq e
    obtain ⟨h1, h3⟩ := and2 h2
    obtain ⟨h1, h4⟩ := and2 h1
    obtain ⟨h1, h5⟩ := and2 h1
    obtain ⟨A, ns, _⟩ := p.a c X (q :: qs) G h3
    have v := isVis_ok G h5
    refine snd_no (pe_callvD (fun j x den hm e2 => ?_) (by rw [G.N]; exact of_decide_eq_true h1) v.1 v.2.1 v.2.2 A ns) (fun o vs p z => by cases z) (fun _ _ => rfl)
    obtain ⟨x', h6, ok⟩ := G.fn j den e2
    have z := of_decide_eq_true (List.all_eq_true.mp h4 _ hm)
    rw [z] at h6
    cases h6
    exact ok
  · cases h2
mutual
theorem snd (Γ : Gam) : ∀ e : Ex, Snd Γ e
  | .v i => snd_v Γ i
  | .non => snd_non Γ
  | .bl b => snd_bl Γ b
  | .int i => snd_int Γ i
  | .str x => snd_str Γ x
  | .glob g => snd_glob Γ g
  | .op2 _ a b => snd_op2 (snd Γ a) (snd Γ b)
  | .neg a => snd_neg (snd Γ a)
  | .cmp _ a b => snd_cmp (snd Γ a) (snd Γ b)
  | .chain _ _ a b d => snd_chain (snd Γ a) (snd Γ b) (snd Γ d)
  | .isN a => snd_isN (snd Γ a)
  | .notN a => snd_notN (snd Γ a)
  | .isB _ a _ => snd_isB (snd Γ a)
  | .rev a => snd_rev (snd Γ a)
  | .band a b => snd_band (snd Γ a) (snd Γ b)
  | .bor a b => snd_bor (snd Γ a) (snd Γ b)
  | .bnot a => snd_bnot (snd Γ a)
  | .ifx t a b => snd_ifx (snd Γ t) (snd Γ a) (snd Γ b)
  | .tup es => snd_tup (snds Γ es)
  | .lst es => snd_lst (snds Γ es)
  | .lstM es => snd_lstM (snds Γ es)
  | .ix a i => snd_ix (snd Γ a) (snd Γ i)
  | .slice a lo hi => snd_slice (snd Γ a) (sndEo Γ lo) (sndEo Γ hi)
  | .call _ es => snd_call (snds Γ es) (Classical.em _)
  | .callk _ es kes _ => snd_callk (snds Γ es) (snds Γ kes)
  | .isi a _ => snd_isi (snd Γ a)
  | .isiT a _ => snd_isiT (snd Γ a)
  | .bi _ es => snd_bi (snds Γ es)
  | .meth _ r es => snd_meth (snd Γ r) (snds Γ es)
  | .lenset a => snd_lenset (snd Γ a)
  | .sortset a => snd_sortset (snd Γ a)
  | .rngM a => snd_rngM (snd Γ a)
  | .rngs _ a b => snd_rngs (snd Γ a) (snd Γ b)
  | .dct _ => snd_dct
  | .dget d k f => snd_dget (snd Γ d) (snd Γ k) (snd Γ f)
  | .dctM => snd_dctM
  | .dix d k => snd_dix (snd Γ d) (snd Γ k)
  | .fnv _ _ => snd_fnv
  | .callv _ _ es => snd_callv (snds Γ es)
  | .comp _ _ _ it cond elt => snd_comp (sndIt Γ it) (snds Γ cond) (snd Γ elt)
theorem snds (Γ : Gam) : ∀ es : Exs, SndsR Γ es
  | .nil => snds_nil Γ
  | .cons e es => snds_cons (snd Γ e) (snds Γ es)
theorem sndEo (Γ : Gam) : ∀ o : Eo, ∀ e, o = .some e → Snd Γ e
  | .none, e, h => by cases h
  | .some a, e, h => by cases h; exact snd Γ a
theorem sndIt (Γ : Gam) : ∀ it : It, ∀ (c : Ctx) (X : Cx) (pe tg : Expr), Good c Γ X → chkI it c tg pe = true → PI X tg pe (tI X.K (evI Γ it))
  | .ex e, c, X, pe, tg, G, h => pi_seqD (snd Γ e c X pe G h).sE
  | .rvs a, c, X, pe, tg, G, h => by
    have h2 : (match gCall pe with
      | some (x, [y], []) => decide (x = ("reversed" : Str)) && isBi c x && notStar y && chkE a c y
      | _ => false) = true := h
    clear h
    split at h2
    · rename_i x y e
      obtain ⟨p1, p2, rfl⟩ := gCall_eq e
      obtain ⟨h1, h3⟩ := and2 h2
      obtain ⟨h1, h4⟩ := and2 h1
      obtain ⟨h1, h5⟩ := and2 h1
      have ex := of_decide_eq_true h1
      subst ex
      obtain ⟨g1, m1⟩ := isBi_ok G h5
      exact pi_rvsD g1 m1 (snd Γ a c X y G h3).sE h4
    · cases h2
  | .enm a, c, X, pe, tg, G, h => by
    have h2 : (match gCall pe with
      | some (x, [y], []) => (gTup tg).isSome && decide (x = ("enumerate" : Str)) && isBi c x && notStar y && chkE a c y
      | _ => false) = true := h
    clear h
    split at h2
    · rename_i x y e
      obtain ⟨p1, p2, rfl⟩ := gCall_eq e
      obtain ⟨h1, h3⟩ := and2 h2
      obtain ⟨h1, h4⟩ := and2 h1
      obtain ⟨h1, h5⟩ := and2 h1
      obtain ⟨h0, h6⟩ := and2 h1
      have ex := of_decide_eq_true h6
      subst ex
      obtain ⟨es, et⟩ := Option.isSome_iff_exists.mp h0
      obtain ⟨k, tp, rfl⟩ := gTup_eq et
      obtain ⟨g1, m1⟩ := isBi_ok G h5
      exact pi_enmD g1 m1 (snd Γ a c X y G h3).sE h4
    · cases h2
  | .enmT a, c, X, pe, tg, G, h => by
    have h2 : (match gCall pe with
      | some (x, [y], []) => (gTup tg).isSome && decide (x = ("enumerate" : Str)) && isBi c x && notStar y && chkE a c y
      | _ => false) = true := h
    clear h
    split at h2
    · rename_i x y e
      obtain ⟨p1, p2, rfl⟩ := gCall_eq e
      obtain ⟨h1, h3⟩ := and2 h2
      obtain ⟨h1, h4⟩ := and2 h1
      obtain ⟨h1, h5⟩ := and2 h1
      obtain ⟨h0, h6⟩ := and2 h1
      have ex := of_decide_eq_true h6
      subst ex
      obtain ⟨es, et⟩ := Option.isSome_iff_exists.mp h0
      obtain ⟨k, tp, rfl⟩ := gTup_eq et
      obtain ⟨g1, m1⟩ := isBi_ok G h5
      exact pi_enmTD g1 m1 (snd Γ a c X y G h3).sE h4
    · cases h2
  | .sgn e, c, X, pe, tg, G, h => pi_sgnD (snd Γ e c X pe G h).sE
  | .zp a b, c, X, pe, tg, G, h => by
    have h2 : (match gCall pe with
      | some (x, [y, z], []) => (gTup tg).isSome && decide (x = ("zip" : Str)) && isBi c x && notStar y && notStar z && chkE a c y && chkE b c z
      | _ => false) = true := h
    clear h
    split at h2
    · rename_i x y z e
      obtain ⟨p1, p2, rfl⟩ := gCall_eq e
      obtain ⟨h1, h3⟩ := and2 h2
      obtain ⟨h1, h4⟩ := and2 h1
      obtain ⟨h1, h5⟩ := and2 h1
      obtain ⟨h1, h6⟩ := and2 h1
      obtain ⟨h1, h7⟩ := and2 h1
      obtain ⟨h0, h8⟩ := and2 h1
      have ex := of_decide_eq_true h8
      subst ex
      obtain ⟨es, et⟩ := Option.isSome_iff_exists.mp h0
      obtain ⟨k, tp, rfl⟩ := gTup_eq et
      obtain ⟨g1, m1⟩ := isBi_ok G h7
      exact pi_zpD g1 m1 (snd Γ a c X y G h4).sE (snd Γ b c X z G h3).sE h6 h5
    · cases h2
  | .rng1 a, c, X, pe, tg, G, h => by
    have h2 : (match gCall pe with
      | some (x, [y], []) => decide (x = ("range" : Str)) && isBi c x && notStar y && chkE a c y
      | _ => false) = true := h
    clear h
    split at h2
    · rename_i x y e
      obtain ⟨p1, p2, rfl⟩ := gCall_eq e
      obtain ⟨h1, h3⟩ := and2 h2
      obtain ⟨h1, h4⟩ := and2 h1
      obtain ⟨h1, h5⟩ := and2 h1
      have ex := of_decide_eq_true h1
      subst ex
      obtain ⟨g1, m1⟩ := isBi_ok G h5
      exact pi_rng1D g1 m1 (snd Γ a c X y G h3).sE h4
    · cases h2
  | .rng2 a b, c, X, pe, tg, G, h => by
    have h2 : (match gCall pe with
      | some (x, [y, z], []) => decide (x = ("range" : Str)) && isBi c x && notStar y && notStar z && chkE a c y && chkE b c z
      | _ => false) = true := h
    clear h
    split at h2
    · rename_i x y z e
      obtain ⟨p1, p2, rfl⟩ := gCall_eq e
      obtain ⟨h1, h3⟩ := and2 h2
      obtain ⟨h1, h4⟩ := and2 h1
      obtain ⟨h1, h5⟩ := and2 h1
      obtain ⟨h1, h6⟩ := and2 h1
      obtain ⟨h1, h7⟩ := and2 h1
      have ex := of_decide_eq_true h1
      subst ex
      obtain ⟨g1, m1⟩ := isBi_ok G h7
      exact pi_rng2D g1 m1 (snd Γ a c X y G h4).sE (snd Γ b c X z G h3).sE h6 h5
    · cases h2
end

/-! Mini 14: statements. -/

structure PR (K : PySem.W.Frag) (W : WX) (h : Hm) (ρ : List Addr) (H : Hp) (P : Po) (D : Ends) : Prop where
  nx : ∀ σ' h' σV' H' ρ', SR K σ' h' ρ' σV' H' → Kp h ρ H h' ρ' H' → P.nx σ' h' → D.nx σV' H'
  bk : ∀ σ' h' σV' H' ρ', SR K σ' h' ρ' σV' H' → Kp h ρ H h' ρ' H' → P.bk σ' h' → D.bk σV' H'
  ct : ∀ σ' h' σV' H' ρ', SR K σ' h' ρ' σV' H' → Kp h ρ H h' ρ' H' → P.ct σ' h' → D.ct σV' H'
  rt : ∀ d h' v H' ρ', HR K h' ρ' H' → Kp h ρ H h' ρ' H' → Rel K h' ρ' H' d v → P.rt d h' → D.rt v H'
  xe : ∀ x σ' h' σV' H' ρ' cls dd, SR K σ' h' ρ' σV' H' → Kp h ρ H h' ρ' H' → RX K h' ρ' H' x cls dd → P.xe x σ' h' → W cls dd σV' H'
theorem PR.step {K : PySem.W.Frag} {W : WX} {h h1 : Hm} {ρ ρ1 : List Addr} {H H1 : Hp} {P : Po} {D : Ends} (p : PR K W h ρ H P D) (k : Kp h ρ H h1 ρ1 H1) : PR K W h1 ρ1 H1 P D :=
  ⟨fun _ _ _ _ _ s k' q => p.nx _ _ _ _ _ s (k.trans k') q, fun _ _ _ _ _ s k' q => p.bk _ _ _ _ _ s (k.trans k') q, fun _ _ _ _ _ s k' q => p.ct _ _ _ _ _ s (k.trans k') q, fun _ _ _ _ _ s k' r q => p.rt _ _ _ _ _ s (k.trans k') r q,
    fun _ _ _ _ _ _ _ _ s k' r q => p.xe _ _ _ _ _ _ _ _ s (k.trans k') r q⟩
def tS (K : PySem.W.Frag) (W : WX) (f : Sg → Hm → Po → Prop) : TS := fun D σV H => ∃ σ h ρ P, SR K σ h ρ σV H ∧ f σ h P ∧ PR K W h ρ H P D

section
variable {K : PySem.W.Frag} {σ : Sg} {h h' : Hm} {ρ ρ' : List Addr} {σV : L2.St} {H H' : Hp}
theorem tE_wp {f : Sg → Hm → Res D} {R : D → Hm → Prop} {Q : VK} (s : SR K σ h ρ σV H) (w : (f σ h).wp R)
    (c : ∀ d h' v H' ρ', SR K σ h' ρ' σV H' → Kp h ρ H h' ρ' H' → Rel K h' ρ' H' d v → R d h' → Q v H') : tE K f σV H Q :=
  ⟨σ, h, ρ, s, Res.wp_mono w fun d h' q v H' ρ' s' k' r' => c d h' v H' ρ' s' k' r' q⟩
theorem tT_wp {f : Sg → Hm → Res Bool} {R : Bool → Hm → Prop} {Q : Bool → Hp → Prop} (s : SR K σ h ρ σV H) (w : (f σ h).wp R)
    (c : ∀ b h' H' ρ', SR K σ h' ρ' σV H' → Kp h ρ H h' ρ' H' → R b h' → Q b H') : tT K f σV H Q :=
  ⟨σ, h, ρ, s, Res.wp_mono w fun b h' q H' ρ' s' k' => c b h' H' ρ' s' k' q⟩
end

section
variable {X : Cx} {pos : Pos} {W : WX}
/-! ### the small ones -/
def notComp : Expr → Bool
  | .ListComp .. => false
  | .SetComp .. => false
  | .DictComp .. => false
  | _ => true
theorem swaps_no {e : Expr} {t : Option Expr} {l : Nat} {env : Env} (h : notComp e = true) : swapsWith e t l env = pure false := by
  cases e <;> first | exact Bool.noConfusion h | rfl
theorem swaps_sole {e : Expr} {t : Expr} {l : Nat} {env : Env} (h : gNm t = none) : swapsWithSole [t] e l env = pure false := by
  cases t <;> first | (exact absurd h (Option.some_ne_none _)) | (cases e <;> rfl)
def swB (sc : Scope) (p : Pos) (t : Str) (tp : Pos) (names : List (Str × NameKind)) : Bool :=
  decide (names.lookup t = some .local) && tp.line == p.line && !(sc.names.any fun (n, k) => n == t && (k == .local || k == .cell))
theorem swaps_lc {elt : Expr} {gs : List Comprehension} {sc : Scope} {p tp : Pos} {t : Str} {l : Nat} (hk : X.env.scope.kind = .function) : swapsWith (.ListComp elt gs sc p) (some (.Name t tp)) l X.env = pure (swB sc p t tp X.env.scope.names) := by
  have h1 : X.env.blockKind = .function := by
    unfold Env.blockKind
    rw [hk]
    rfl
  show pure (X.env.blockKind == .function && X.env.kindOf t == some .local && tp.line == p.line && !(sc.names.any fun (n, k) => n == t && (k == .local || k == .cell))) = _
  unfold swB
  rw [h1]
  have : (X.env.kindOf t == some .local) = decide (X.env.scope.names.lookup t = some .local) := by
    show (X.env.scope.names.lookup t == some NameKind.local) = _
    rw [Bool.beq_eq_decide_eq]
  rw [this]
  simp
/-- x = e -/
theorem ps_setD {i : Nat} {x : Str} {e : Expr} {p2 : Pos} {f : Sg → Hm → Res D} (hN : X.N.Nodup) (hi : X.N[i]? = some x) (hx : L2.Loc X.env.scope x) (hf : X.fn x = true ∨ X.env.scope.names.lookup x = some .local) (he : PE X e (tE X.K f)) (hs : swapsWith e (some (.Name x p2)) pos.line X.env = pure false) :
    PS X (.Assign [.Name x p2] e pos) (tS X.K W fun σ h P => (f σ h).wp fun d h1 => P.nx (σ.set i (some d)) h1) := by
  refine PS.w (ps_set hN hi hx he hs hf) fun D σV H ⟨σ, h, ρ, P, s, q, pr⟩ => ?_
  exact tE_wp s q fun d h1 v H1 ρ1 s1 k1 r1 q => pr.nx _ _ _ _ _ ⟨s1.hp, s1.sl.set r1⟩ k1 q
theorem ps_exD {e : Expr} {f : Sg → Hm → Res D} (he : PE X e (tE X.K f)) (hs : notComp e = true) : PS X (.Expr e pos) (tS X.K W fun σ h P => (f σ h).wp fun _ h1 => P.nx σ h1) := by
  refine PS.w (ps_expr he (swaps_no hs)) fun D σV H ⟨σ, h, ρ, P, s, q, pr⟩ => ?_
  exact tE_wp s q fun d h1 v H1 ρ1 s1 k1 r1 q => pr.nx _ _ _ _ _ s1 k1 q
theorem ps_retD {e : Expr} {f : Sg → Hm → Res D} (he : PE X e (tE X.K f)) : PS X (.Return (some e) pos) (tS X.K W fun σ h P => (f σ h).wp P.rt) := by
  refine PS.w (ps_ret he) fun D σV H ⟨σ, h, ρ, P, s, q, pr⟩ => ?_
  exact tE_wp s q fun d h1 v H1 ρ1 s1 k1 r1 q => pr.rt _ _ _ _ _ s1.hp k1 r1 q
theorem ps_ifD {c : Expr} {a b : List Stmt} {fc : Sg → Hm → Res Bool} {fa fb : Sg → Hm → Po → Prop} (hc : PT X c (tT X.K fc)) (ha : PSs X a (tS X.K W fa)) (hb : PSs X b (tS X.K W fb)) :
    PS X (.If c a b pos) (tS X.K W fun σ h P => (fc σ h).wp fun t h1 => match t with
    | true => fa σ h1 P
    | false => fb σ h1 P) := by
  refine PS.w (ps_if hc ha hb) fun D σV H ⟨σ, h, ρ, P, s, q, pr⟩ => ?_
  refine tT_wp s q fun t h1 H1 ρ1 s1 k1 q => ?_
  cases t with
  | true => exact iteT ⟨σ, h1, ρ1, P, s1, q, pr.step k1⟩
  | false => exact iteF ⟨σ, h1, ρ1, P, s1, q, pr.step k1⟩
theorem ps_passD : PS X (.Pass pos) (tS X.K W fun σ h P => P.nx σ h) := PS.w ps_pass fun D σV H ⟨σ, h, ρ, P, s, q, pr⟩ => pr.nx _ _ _ _ _ s Kps.refl q
theorem ps_brkD : PS X (.Break pos) (tS X.K W fun σ h P => P.bk σ h) := PS.w ps_break fun D σV H ⟨σ, h, ρ, P, s, q, pr⟩ => pr.bk _ _ _ _ _ s Kps.refl q
theorem ps_contD : PS X (.Continue pos) (tS X.K W fun σ h P => P.ct σ h) := PS.w ps_continue fun D σV H ⟨σ, h, ρ, P, s, q, pr⟩ => pr.ct _ _ _ _ _ s Kps.refl q
theorem ps_nevD {st : Stmt} : PS X st (tS X.K W fun _ _ _ => False) := ⟨fun _ _ _ _ _ _ ⟨_, _, _, _, _, q, _⟩ => False.elim q⟩
theorem pss_nilD : PSs X [] (tS X.K W fun σ h P => P.nx σ h) := PSs.w pss_nil fun D σV H ⟨σ, h, ρ, P, s, q, pr⟩ => pr.nx _ _ _ _ _ s Kps.refl q
theorem pss_consD {st : Stmt} {rest : List Stmt} {f g : Sg → Hm → Po → Prop} (h1 : PS X st (tS X.K W f)) (h2 : PSs X rest (tS X.K W g)) : PSs X (st :: rest) (tS X.K W fun σ h P => f σ h { P with nx := fun σ' h' => g σ' h' P }) := by
  refine PSs.w (pss_cons h1 h2) fun D σV H ⟨σ, h, ρ, P, s, q, pr⟩ => ?_
  exact ⟨σ, h, ρ, _, s, q, ⟨fun σ' h' σV' H' ρ' s' k' q' => ⟨σ', h', ρ', P, s', q', pr.step k'⟩, pr.bk, pr.ct, pr.rt, pr.xe⟩⟩
/-- a shared list is closed -/
theorem pss_freezeD {sts : List Stmt} {i : Nat} {g : Sg → Hm → Po → Prop} (h2 : PSs X sts (tS X.K W g)) : PSs X sts (tS X.K W fun σ h P => match σ[i]? with
    | some (some (.ref n)) => match listOf? h n with
      | some xs => g (σ.set i (some (.lst xs))) (h.set n .gone) P
      | none => False
    | _ => False) := by
  refine PSs.w h2 fun D σV H ⟨σ, h, ρ, P, s, q, pr⟩ => ?_
  dsimp only at q
  split at q
  · rename_i n e1
    split at q
    · rename_i xs e2
      obtain ⟨v, e3, r⟩ := s.sl.get i _ e1
      cases r with
      | @ref _ a ea =>
        have eh := listOf_eq e2
        obtain ⟨hr, rl⟩ := s.hp.close ea eh
        have kc : Kp h ρ H (h.set n .gone) ρ H := Kp.close ea eh
        have sl : SlR X.K H ρ (Mu ρ (h.set n .gone)) (σ.set i (some (.lst xs))) σV := by
          have z := (s.sl.mono kc).set (i := i) rl
          have : σV.set i (some (V.ref a)) = σV := by
            apply List.ext_getElem?
            intro j
            rw [List.getElem?_set]
            split
            · rename_i hj
              subst hj
              split
              · exact e3.symm
              · rename_i hl
                rw [List.getElem?_eq_none (by omega)]
            · rfl
          rw [this] at z
          exact z
        exact ⟨_, _, ρ, P, ⟨hr, sl⟩, q, pr.step kc⟩
    · exact False.elim q
  · exact False.elim q

/-! ### targets of several names -/
theorem swapped_no {ts : List Expr} {k : Nat} {p : Pos} {e : Expr} {env : Env} (h : gTup e = none) : swappedStores [.Tuple ts k p] e env = pure none := by
  cases e <;> first | (exact absurd h (Option.some_ne_none _)) | rfl
theorem ps_asgD {is : List Nat} {es : List Expr} {k : Nat} {p : Pos} {e : Expr} {f : Sg → Hm → Res D} (hN : X.N.Nodup) (hc : X.calm = true) (ht : NmT X is es) (he : PE X e (tE X.K f)) (hw : swappedStores [.Tuple es k p] e X.env = pure none) :
    PS X (.Assign [.Tuple es k p] e pos) (tS X.K W fun σ h P => (f σ h).wp fun d h1 => match asgD (.tup is) d σ with
    | some σ' => P.nx σ' h1
    | none => False) := by
  refine PS.w (ps_asg he (pg_tupD hN hc ht) (swaps_sole rfl) hw (by rfl)) fun D σV H ⟨σ, h, ρ, P, s, q, pr⟩ => ?_
  refine tE_wp s q fun d h1 v H1 ρ1 s1 k1 r1 q => ?_
  cases ea : asgD (.tup is) d σ with
  | none => rw [ea] at q; exact False.elim q
  | some σ' =>
    rw [ea] at q
    exact ⟨σ, h1, ρ1, d, σ', s1, r1, ea, fun σV' s2 _ => pr.nx _ _ _ _ _ s2 k1 q⟩
/-- a, b = x, y -/
def parB (names : List (Str × NameKind)) (x y : Str) (px py : Pos) (a b : Expr) : Bool :=
  decide (names.lookup x = some .local) && decide (names.lookup y = some .local) && (py.line == px.line) && !(x == y) && notStar a && notStar b && !([a, b].all (foldedForSure 8)) && !([a, b].all (constantsAlone 8))
theorem swapped_par {x y : Str} {px py pt p2 : Pos} {k k2 : Nat} {a b : Expr} (hk : X.env.scope.kind = .function) (h : parB X.env.scope.names x y px py a b = true) :
    swappedStores [.Tuple [.Name x px, .Name y py] k pt] (.Tuple [a, b] k2 p2) X.env = pure (some [x, y]) := by
  unfold parB at h
  obtain ⟨h, h8⟩ := and2 h
  obtain ⟨h, h7⟩ := and2 h
  obtain ⟨h, h6⟩ := and2 h
  obtain ⟨h, h5⟩ := and2 h
  obtain ⟨h, h4⟩ := and2 h
  obtain ⟨h, h3⟩ := and2 h
  obtain ⟨h1, h2⟩ := and2 h
  have e1 : X.env.kindOf x = some .local := of_decide_eq_true h1
  have e2 : X.env.kindOf y = some .local := of_decide_eq_true h2
  have e4 : (x == y) = false := by simpa using h4
  have e4' : (y == x) = false := by
    have : x ≠ y := by simpa using e4
    simpa using this.symm
  have e7 : ([a, b].all (foldedForSure 8)) = false := by rw [Bool.not_eq_true'] at h7; exact h7
  have e8 : ([a, b].all (constantsAlone 8)) = false := by rw [Bool.not_eq_true'] at h8; exact h8
  have bk : X.env.blockKind = .function := by
    unfold Env.blockKind
    rw [hk]
    rfl
  have st : ([a, b].any fun e => match e with | .Starred .. => true | _ => false) = false := by
    have q : ∀ e, notStar e = true → (match e with | Expr.Starred .. => true | _ => false) = false := by
      intro e h
      cases e <;> first | exact Bool.noConfusion h | rfl
    simp [List.any_cons, q a h5, q b h6]
  have l3 : py.line = px.line := by simpa using h3
  have n1 : (X.env.kindOf x == some NameKind.local && px.line == px.line) = true := by rw [e1]; simp
  have n2 : (X.env.kindOf y == some NameKind.local && py.line == px.line) = true := by rw [e2, l3]; simp
  have nd : ([x, y] : List Str).eraseDups = [x, y] := by
    rw [List.eraseDups_cons]
    simp [List.filter_cons, e4', List.eraseDups_cons]
  have fm : ([Expr.Name x px, Expr.Name y py].filterMap fun e => match e with
    | .Name id pos => if (X.env.kindOf id == some NameKind.local && pos.line == px.line) = true then some id else none
    | _ => none) = [x, y] := by
    simp only [List.filterMap_cons, List.filterMap_nil, n1, n2, if_true]
  unfold swappedStores
  simp only [bk, fm, nd, st, e7, e8, List.length_cons, List.length_nil, List.head?_cons, Option.map_some, Option.getD_some, Expr.pos]
  refine Eq.trans (if_neg (by decide)) ?_
  refine Eq.trans (if_neg fun z => ?_) ?_
  · rw [List.any_eq_true] at z
    obtain ⟨e, he, hz⟩ := z
    have hn : notStar e = true := by
      rcases List.mem_cons.mp he with rfl | he
      · exact h5
      · rcases List.mem_cons.mp he with rfl | he
        · exact h6
        · cases he
    split at hz
    · exact Bool.noConfusion hn
    · cases hz
  · simp only [List.filterMap_cons, List.filterMap_nil, n1, n2, if_true, nd]
    simp
theorem ps_parD {i j : Nat} {x y : Str} {a b : Expr} {px py pt p2 : Pos} {k k2 : Nat} {fa fb : Sg → Hm → Res D} (hN : X.N.Nodup) (hk : X.env.scope.kind = .function) (hc : X.calm = true) (hi : X.N[i]? = some x) (hj : X.N[j]? = some y) (hij : i ≠ j) (h : parB X.env.scope.names x y px py a b = true)
    (ha : PE X a (tE X.K fa)) (hb : PE X b (tE X.K fb)) :
    PS X (.Assign [.Tuple [.Name x px, .Name y py] k pt] (.Tuple [a, b] k2 p2) pos) (tS X.K W fun σ h P => (fa σ h).wp fun u h1 => (fb σ h1).wp fun v h2 => P.nx ((σ.set i (some u)).set j (some v)) h2) := by
  have h' := h
  unfold parB at h'
  obtain ⟨h', _⟩ := and2 h'
  obtain ⟨h', _⟩ := and2 h'
  obtain ⟨h', h6⟩ := and2 h'
  obtain ⟨h', h5⟩ := and2 h'
  obtain ⟨h', _⟩ := and2 h'
  obtain ⟨h', _⟩ := and2 h'
  obtain ⟨h1, h2⟩ := and2 h'
  have pa : PA X [a, b] (tCons (tE X.K fa) (tCons (tE X.K fb) tNil)) := pa_cons ha (pa_cons hb pa_nil (star_cons h6)) (star_cons h5)
  refine PS.w (ps_par hc hN hi hj hij (of_decide_eq_true h1) (of_decide_eq_true h2) pa (swapped_par hk h) (swaps_sole rfl)) fun D σV H ⟨σ, h, ρ, P, s, q, pr⟩ => ?_
  refine tE_wp s q fun d h1 v H1 ρ1 s1 k1 r1 q => ?_
  refine tE_wp s1 q fun e h2 w H2 ρ2 s2 k2 r2 q => ?_
  exact ⟨v, w, rfl, pr.nx _ _ _ _ _ ⟨s2.hp, (s2.sl.set (r1.mono k2)).set r2⟩ (k1.trans k2) q⟩
/-- a, b, c = x, y, z -/
def parB3 (names : List (Str × NameKind)) (x y z : Str) (px py pz : Pos) (a b d : Expr) : Bool :=
  decide (names.lookup x = some .local) && decide (names.lookup y = some .local) && decide (names.lookup z = some .local) && (py.line == px.line) && (pz.line == px.line) && !(x == y) && !(x == z) && !(y == z) && notStar a && notStar b && notStar d && !([a, b, d].all (foldedForSure 8)) && !([a, b, d].all (constantsAlone 8))
theorem swapped_par3 {x y z : Str} {px py pz pt p2 : Pos} {k k2 : Nat} {a b d : Expr} (hk : X.env.scope.kind = .function) (h : parB3 X.env.scope.names x y z px py pz a b d = true) :
    swappedStores [.Tuple [.Name x px, .Name y py, .Name z pz] k pt] (.Tuple [a, b, d] k2 p2) X.env = pure (some [x, y, z]) := by
  unfold parB3 at h
  obtain ⟨h, h13⟩ := and2 h
  obtain ⟨h, h12⟩ := and2 h
  obtain ⟨h, h11⟩ := and2 h
  obtain ⟨h, h10⟩ := and2 h
  obtain ⟨h, h9⟩ := and2 h
  obtain ⟨h, h8⟩ := and2 h
  obtain ⟨h, h7⟩ := and2 h
  obtain ⟨h, h6⟩ := and2 h
  obtain ⟨h, h5⟩ := and2 h
  obtain ⟨h, h4⟩ := and2 h
  obtain ⟨h, h3⟩ := and2 h
  obtain ⟨h1, h2⟩ := and2 h
  have e1 : X.env.kindOf x = some .local := of_decide_eq_true h1
  have e2 : X.env.kindOf y = some .local := of_decide_eq_true h2
  have e3 : X.env.kindOf z = some .local := of_decide_eq_true h3
  have e6 : x ≠ y := by simpa using h6
  have e7 : x ≠ z := by simpa using h7
  have e8 : y ≠ z := by simpa using h8
  have f1 : (y == x) = false := by simpa using e6.symm
  have f2 : (z == x) = false := by simpa using e7.symm
  have f3 : (z == y) = false := by simpa using e8.symm
  have g1 : ([a, b, d].all (foldedForSure 8)) = false := by rw [Bool.not_eq_true'] at h12; exact h12
  have g2 : ([a, b, d].all (constantsAlone 8)) = false := by rw [Bool.not_eq_true'] at h13; exact h13
  have bk : X.env.blockKind = .function := by
    unfold Env.blockKind
    rw [hk]
    rfl
  have l4 : py.line = px.line := by simpa using h4
  have l5 : pz.line = px.line := by simpa using h5
  have n1 : (X.env.kindOf x == some NameKind.local && px.line == px.line) = true := by rw [e1]; simp
  have n2 : (X.env.kindOf y == some NameKind.local && py.line == px.line) = true := by rw [e2, l4]; simp
  have n3 : (X.env.kindOf z == some NameKind.local && pz.line == px.line) = true := by rw [e3, l5]; simp
  have nd : ([x, y, z] : List Str).eraseDups = [x, y, z] := by
    rw [List.eraseDups_cons]
    simp [List.filter_cons, f1, f2, f3, List.eraseDups_cons]
  unfold swappedStores
  simp only [bk, nd, g1, g2, List.length_cons, List.length_nil, List.head?_cons, Option.map_some, Option.getD_some, Expr.pos]
  refine Eq.trans (if_neg (by decide)) ?_
  refine Eq.trans (if_neg fun q => ?_) ?_
  · rw [List.any_eq_true] at q
    obtain ⟨e, he, hz⟩ := q
    have hn : notStar e = true := by
      rcases List.mem_cons.mp he with rfl | he
      · exact h9
      · rcases List.mem_cons.mp he with rfl | he
        · exact h10
        · rcases List.mem_cons.mp he with rfl | he
          · exact h11
          · cases he
    split at hz
    · exact Bool.noConfusion hn
    · cases hz
  · simp only [List.filterMap_cons, List.filterMap_nil, n1, n2, n3, if_true, nd]
    simp
theorem ps_par3D {i j l : Nat} {x y z : Str} {a b d : Expr} {px py pz pt p2 : Pos} {k k2 : Nat} {fa fb fd : Sg → Hm → Res D} (hN : X.N.Nodup) (hk : X.env.scope.kind = .function) (hc : X.calm = true) (hi : X.N[i]? = some x) (hj : X.N[j]? = some y) (hl : X.N[l]? = some z) (hij : i ≠ j) (hil : i ≠ l) (hjl : j ≠ l) (h : parB3 X.env.scope.names x y z px py pz a b d = true)
    (ha : PE X a (tE X.K fa)) (hb : PE X b (tE X.K fb)) (hd : PE X d (tE X.K fd)) :
    PS X (.Assign [.Tuple [.Name x px, .Name y py, .Name z pz] k pt] (.Tuple [a, b, d] k2 p2) pos) (tS X.K W fun σ h P => (fa σ h).wp fun u h1 => (fb σ h1).wp fun v h2 => (fd σ h2).wp fun w h3 => P.nx (((σ.set i (some u)).set j (some v)).set l (some w)) h3) := by
  have h' := h
  unfold parB3 at h'
  obtain ⟨h', _⟩ := and2 h'
  obtain ⟨h', _⟩ := and2 h'
  obtain ⟨h', h11⟩ := and2 h'
  obtain ⟨h', h10⟩ := and2 h'
  obtain ⟨h', h9⟩ := and2 h'
  obtain ⟨h', _⟩ := and2 h'
  obtain ⟨h', _⟩ := and2 h'
  obtain ⟨h', _⟩ := and2 h'
  obtain ⟨h', _⟩ := and2 h'
  obtain ⟨h', _⟩ := and2 h'
  obtain ⟨h', h3⟩ := and2 h'
  obtain ⟨h1, h2⟩ := and2 h'
  have pa : PA X [a, b, d] (tCons (tE X.K fa) (tCons (tE X.K fb) (tCons (tE X.K fd) tNil))) := pa_cons ha (pa_cons hb (pa_cons hd pa_nil (star_cons h11)) (star_cons h10)) (star_cons h9)
  refine PS.w (ps_par3 hc hN hi hj hl hij hil hjl (of_decide_eq_true h1) (of_decide_eq_true h2) (of_decide_eq_true h3) pa (swapped_par3 hk h) (swaps_sole rfl)) fun D σV H ⟨σ, h, ρ, P, s, q, pr⟩ => ?_
  refine tE_wp s q fun d1 h1 v H1 ρ1 s1 k1 r1 q => ?_
  refine tE_wp s1 q fun d2 h2 w H2 ρ2 s2 k2 r2 q => ?_
  refine tE_wp s2 q fun d3 h3 u H3 ρ3 s3 k3 r3 q => ?_
  exact ⟨v, w, u, rfl, pr.nx _ _ _ _ _ ⟨s3.hp, ((s3.sl.set (r1.mono (k2.trans k3))).set (r2.mono k3)).set r3⟩ ((k1.trans k2).trans k3) q⟩
/-- a dict written: its pairs -/
theorem put_len {α : Type} {ks : List Str} {vs : List α} {z : Str} {v : α} (l : ks.length = vs.length) : (putKs ks z).length = (putVs ks vs z v).length := by
  unfold putKs putVs
  split
  · rw [List.length_map, List.length_zip]
    omega
  · rw [List.length_append, List.length_append, l]
    rfl
theorem put_kz {ks : List Str} {vs : List V} {z : Str} {v : V} (l : ks.length = vs.length) : kz (putKs ks z) (putVs ks vs z v) = putK (kz ks vs) (.inr z) v := by
  have anyE : ∀ (ks : List Str) (vs : List V), ks.length = vs.length → (((kz ks vs).any fun kv => decide (kv.1 = (Sum.inr z : Key))) = decide (z ∈ ks)) := by
    intro ks
    induction ks with
    | nil => intro vs _; rfl
    | cons k ks ih =>
      intro vs l
      cases vs with
      | nil => cases l
      | cons u us =>
        have := ih us (Nat.succ.inj l)
        show (decide ((Sum.inr k : Key) = Sum.inr z) || (kz ks us).any _) = _
        rw [this]
        by_cases c : k = z
        · subst c
          simp
        · rw [decide_eq_false (fun e => c (Sum.inr.inj e)), Bool.false_or]
          exact decide_eq_decide.mpr ⟨fun m => List.mem_cons_of_mem _ m, fun m => by
            rcases List.mem_cons.mp m with m | m
            · exact absurd m.symm c
            · exact m⟩
  have mapE : ∀ (ks : List Str) (vs : List V), ks.length = vs.length → kz ks ((ks.zip vs).map (fun p => if p.1 = z then v else p.2)) = (kz ks vs).map (fun kv => if kv.1 = (Sum.inr z : Key) then (kv.1, v) else kv) := by
    intro ks
    induction ks with
    | nil => intro vs _; rfl
    | cons k ks ih =>
      intro vs l
      cases vs with
      | nil => cases l
      | cons u us =>
        have := ih us (Nat.succ.inj l)
        refine List.cons_eq_cons.mpr ⟨?_, this⟩
        show (Sum.inr k, if k = z then v else u) = (if (Sum.inr k : Key) = Sum.inr z then (Sum.inr k, v) else (Sum.inr k, u))
        by_cases c : k = z
        · rw [if_pos c, if_pos (by rw [c])]
        · rw [if_neg c, if_neg (fun e => c (Sum.inr.inj e))]
  unfold putK
  rw [anyE ks vs l]
  unfold putKs putVs
  by_cases c : z ∈ ks
  · rw [if_pos c, if_pos c, if_pos (decide_eq_true c)]
    exact mapE ks vs l
  · rw [if_neg c, if_neg c, if_neg (by rw [decide_eq_true_eq]; exact c)]
    unfold kz
    rw [List.map_append, List.zip_append (by rw [List.length_map]; exact l)]
    rfl
theorem put_relm {K : PySem.W.Frag} {H : Hp} {ρ : List Addr} {M : Addr → Prop} {z : Str} {d : D} {v : V} (rv : RD K H ρ M d v) : ∀ {ks : List Str} {ds : List D} {vs : List V}, RDs K H ρ M ds vs → RDs K H ρ M ((ks.zip ds).map (fun p => if p.1 = z then d else p.2)) ((ks.zip vs).map (fun p => if p.1 = z then v else p.2))
  | [], _, _, _ => .nil
  | _ :: _, [], _, r => by cases r; exact .nil
  | k :: ks, a :: ds, _, r => by
    cases r with
    | cons x y =>
      refine .cons ?_ (put_relm rv y)
      dsimp only
      split
      · exact rv
      · exact x
theorem put_rels {K : PySem.W.Frag} {H : Hp} {ρ : List Addr} {M : Addr → Prop} {z : Str} {d : D} {v : V} (rv : RD K H ρ M d v) {ks : List Str} {ds : List D} {vs : List V} (r : RDs K H ρ M ds vs) : RDs K H ρ M (putVs ks ds z d) (putVs ks vs z v) := by
  unfold putVs
  split
  · exact put_relm rv r
  · exact RDs.append r (.cons rv .nil)
/-- o[i] = e, a dict -/
theorem ps_dputD {o i e : Expr} {p : Pos} {fo fi fe : Sg → Hm → Res D} (hu : X.A.units + 64 < cLine) (ho : PE X o (tE X.K fo)) (hi : PE X i (tE X.K fi)) (he : PE X e (tE X.K fe)) (hpi : plainIx i = true) (hc : notComp e = true) :
    PS X (.Assign [.Subscript o i p] e pos) (tS X.K W fun σ h P => (fe σ h).wp fun d h1 => (fo σ h1).wp fun x h2 => (fi σ h2).wp fun y h3 => match x, y with
    | .ref n, .str z => match dicOf? h3 n with
      | some kd => decide (kd.1.length < LIM) = true ∧ P.nx σ (h3.set n (.dic (putKs kd.1 z) (putVs kd.1 kd.2 z d)))
      | none => False
    | _, _ => False) := by
  refine PS.w (ps_dput (by omega) ho hi he (swaps_no hc)) fun D σV H ⟨σ, h, ρ, P, s, q, pr⟩ => ?_
  refine tE_wp s q fun d h1 v H1 ρ1 s1 k1 r1 q => ?_
  refine tE_wp s1 q fun x h2 w H2 ρ2 s2 k2 r2 q => ?_
  refine tE_wp s2 q fun y h3 z H3 ρ3 s3 k3 r3 q => ?_
  cases x with
  | ref n =>
    cases y with
    | str zz =>
      have q : (match dicOf? h3 n with
        | some kd => decide (kd.1.length < LIM) = true ∧ P.nx σ (h3.set n (.dic (putKs kd.1 zz) (putVs kd.1 kd.2 zz d)))
        | none => False) := q
      cases e2 : dicOf? h3 n with
      | none => rw [e2] at q; exact False.elim q
      | some kd =>
        rw [e2] at q
        obtain ⟨ql, q⟩ := q
        have r2' := RD.mono k3 r2
        cases r2' with
        | @ref _ a ea =>
          obtain ⟨vs, h4, h5, h6⟩ := s3.hp.obj n _ a (dicOf_eq e2) ea
          have hl : kd.1.length < LIM := of_decide_eq_true ql
          have r1' := RD.mono (k2.trans k3) r1
          have hk : (kz kd.1 vs).length = kd.1.length := by
            unfold kz
            rw [List.length_zip, List.length_map]
            omega
          have kp : Kp h3 ρ3 H3 (h3.set n (.dic (putKs kd.1 zz) (putVs kd.1 kd.2 zz d))) ρ3 (upd H3 a (.dK (kz (putKs kd.1 zz) (putVs kd.1 vs zz v)))) := Kp.writeO ea (dicOf_eq e2) (by intro z; cases z)
          have hw := s3.hp.writeD (ks' := putKs kd.1 zz) (ds' := putVs kd.1 kd.2 zz d) (ws := putVs kd.1 vs zz v) ea (dicOf_eq e2) (put_rels r1' h5) (put_len h6)
          rw [rI_str r3]
          refine ⟨a, upd H3 a (.dK (putK (kz kd.1 vs) (.inr zz) v)), rfl, .inl ⟨_, .inr zz, h4, rfl, by rw [hk]; exact lt_sz ql, rfl⟩, ?_⟩
          rw [put_kz h6] at hw kp
          exact pr.nx _ _ _ _ _ (s3.of hw kp) (((k1.trans k2).trans k3).trans kp) q
    | _ => exact False.elim q
  | _ => exact False.elim q
/-- o[i] = e -/
theorem ps_setixD {o i e : Expr} {p : Pos} {fo fi fe : Sg → Hm → Res D} (ho : PE X o (tE X.K fo)) (hi : PE X i (tE X.K fi)) (he : PE X e (tE X.K fe)) (hpi : plainIx i = true) :
    PS X (.Assign [.Subscript o i p] e pos) (tS X.K W fun σ h P => (fe σ h).wp fun d h1 => (fo σ h1).wp fun x h2 => (fi σ h2).wp fun y h3 => match x, y with
    | .ref n, .int k => match listOf? h3 n with
      | some xs => match ixN xs.length k with
        | some j => P.nx σ (h3.set n (.lst (xs.set j d)))
        | none => False
      | none => False
    | _, _ => False) := by
  refine PS.w (ps_asg he (pg_sub ho hi set_list (by intro v; cases i <;> first | exact Bool.noConfusion hpi | rfl)) (swaps_sole rfl) (by cases e <;> rfl) (by rfl)) fun D σV H ⟨σ, h, ρ, P, s, q, pr⟩ => ?_
  refine tE_wp s q fun d h1 v H1 ρ1 s1 k1 r1 q => ?_
  refine tE_wp s1 q fun x h2 w H2 ρ2 s2 k2 r2 q => ?_
  refine tE_wp s2 q fun y h3 z H3 ρ3 s3 k3 r3 q => ?_
  cases x with
  | ref n =>
    cases y with
    | int k =>
      have q : (match listOf? h3 n with
        | some xs => match ixN xs.length k with
          | some j => P.nx σ (h3.set n (.lst (xs.set j d)))
          | none => False
        | none => False) := q
      cases e2 : listOf? h3 n with
      | none => rw [e2] at q; exact False.elim q
      | some xs =>
        rw [e2] at q
        dsimp only at q
        cases e3 : ixN xs.length k with
        | none => rw [e3] at q; exact False.elim q
        | some j =>
          rw [e3] at q
          have r2' := RD.mono k3 r2
          cases r2' with
          | @ref _ a ea =>
            obtain ⟨vs, h4, h5⟩ := s3.hp.ref ea e2
            have eh := listOf_eq e2
            have r4 : Rels X.K h3 ρ3 H3 (xs.set j d) (vs.set j v) := h5.set j (r1.mono (k2.trans k3))
            have kw : Kp h3 ρ3 H3 (h3.set n (.lst (xs.set j d))) ρ3 (upd H3 a (.lst (vs.set j v))) := Kp.write ea eh
            exact ⟨a, vs, k, j, rfl, rI_int r3, h4, by rw [← h5.length]; exact e3, pr.nx _ _ _ _ _ (s3.of (s3.hp.write ea eh r4) kw) (((k1.trans k2).trans k3).trans kw) q⟩
    | _ => exact False.elim q
  | _ => cases y <;> exact False.elim q
/-! ### loops -/
theorem ps_forD {tg iter : Expr} {body : List Stmt} {tgD : Tg} {fi : Sg → Hm → Res (List D)} {fb : Sg → Hm → Po → Prop} (hp : PassesOwn (model X.prog X.w) X.A X.env X.xe) (hc : X.calm = true) (hi : PI X tg iter (tI X.K fi)) (hg : PG X tg (tG X.K tgD)) (hb : PSs X body (tS X.K W fb)) (hs : notSet iter = true) :
    PS X (.For tg iter body [] pos) (tS X.K W fun σ h P => (fi σ h).wp fun xs h1 => wpFor (fun x σ1 h2 P1 => match asgD tgD x σ1 with
    | some σ2 => fb σ2 h2 P1
    | none => False) xs σ h1 P) := by
  refine PS.w (ps_for hp hc hi hg hb (notSet_ok hs)) fun D σV H ⟨σ, h, ρ, P, s, q, pr⟩ => ?_
  refine ⟨σ, h, ρ, s, Res.wp_mono q fun xs h1 q J H1 ρ1 s1 k1 it => ?_⟩
  generalize hf : (fun (x : Mn.D) (σ1 : Sg) (h2 : Hm) (P1 : Po) => match asgD tgD x σ1 with
    | some σ2 => fb σ2 h2 P1
    | none => False) = f at q
  refine ⟨fun i m σV2 H2 => ∃ σ h2 ρ2, SR X.K σ h2 ρ2 σV2 H2 ∧ Kp h1 ρ1 H1 h2 ρ2 H2 ∧ m = xs.length - i ∧ i ≤ xs.length ∧ wpFor f (xs.drop i) σ h2 P, ⟨xs.length, σ, h1, ρ1, s1, Kps.refl, by simp, Nat.zero_le _, by rw [List.drop_zero]; exact q⟩, ?_⟩
  rintro i m σV2 H2 ⟨σ2, h2, ρ2, s2, k2, rfl, hi, q⟩
  obtain ⟨it1, it2⟩ := it h2 ρ2 H2 s2.hp k2
  by_cases hlt : i < xs.length
  · have ex : xs[i]? = some xs[i] := List.getElem?_eq_getElem hlt
    rw [List.drop_eq_getElem_cons hlt] at q
    obtain ⟨go, yl⟩ := it1 i _ ex
    refine .inr ⟨go, _, fun σ' H' n => ⟨xs.length - (i + 1), by omega, n⟩, fun x H3 y => ?_⟩
    obtain ⟨r3, k3, rx⟩ := yl x H3 y
    unfold wpFor at q
    have q : (match asgD tgD xs[i] σ2 with
      | some σ2 => fb σ2 h2 { P with nx := fun σ' h' => wpFor f (xs.drop (i + 1)) σ' h' P, ct := fun σ' h' => wpFor f (xs.drop (i + 1)) σ' h' P, bk := P.nx }
      | none => False) := by
        rw [← hf] at q ⊢
        exact q
    cases ea : asgD tgD xs[i] σ2 with
    | none => rw [ea] at q; exact False.elim q
    | some σ3 =>
      rw [ea] at q
      refine ⟨σ2, h2, ρ2, xs[i], σ3, s2.of r3 k3, rx, ea, fun σV' s4 _ => ⟨σ3, h2, ρ2, _, s4, q, ?_⟩⟩
      have k4 := k2.trans k3
      exact ⟨fun σ' h' σV' H' ρ' s' k' q' => ⟨σ', h', ρ', s', k4.trans k', rfl, hlt, q'⟩, fun σ' h' σV' H' ρ' s' k' q' => pr.nx _ _ _ _ _ s' ((k1.trans k4).trans k') q',
        fun σ' h' σV' H' ρ' s' k' q' => ⟨σ', h', ρ', s', k4.trans k', rfl, hlt, q'⟩, fun d h' v H' ρ' s' k' r q' => pr.rt _ _ _ _ _ s' ((k1.trans k4).trans k') r q', fun x σ' h' σV' H' ρ' cls dd s' k' r q' => pr.xe _ _ _ _ _ _ _ _ s' ((k1.trans k4).trans k') r q'⟩
  · have e : i = xs.length := by omega
    subst e
    rw [List.drop_length] at q
    exact .inl ⟨it2, pr.nx _ _ _ _ _ s2 (k1.trans k2) q⟩
theorem ps_whileD {c : Expr} {body : List Stmt} {fc : Sg → Hm → Res Bool} {fb : Sg → Hm → Po → Prop} (hp : PassesOwn (model X.prog X.w) X.A X.env X.xe) (hc : PT X c (tT X.K fc)) (hb : PSs X body (tS X.K W fb)) :
    PS X (.While c body [] pos) (tS X.K W fun σ h P => ∃ n, wpWhile fc fb n σ h P) := by
  refine PS.w (ps_while hp hc hb) fun D σV H ⟨σ, h, ρ, P, s, ⟨n, q⟩, pr⟩ => ?_
  refine ⟨fun m σV2 H2 => ∃ σ h2 ρ2, SR X.K σ h2 ρ2 σV2 H2 ∧ Kp h ρ H h2 ρ2 H2 ∧ wpWhile fc fb m σ h2 P, ⟨n, σ, h, ρ, s, Kps.refl, q⟩, ?_⟩
  rintro m σV2 H2 ⟨σ2, h2, ρ2, s2, k2, q⟩
  cases m with
  | zero => exact False.elim q
  | succ m =>
    unfold wpWhile at q
    refine tT_wp s2 q fun b h3 H3 ρ3 s3 k3 q => ?_
    have k4 := k2.trans k3
    cases b with
    | true =>
      refine iteT ⟨fun σV' H' => ∃ σ h2 ρ2, SR X.K σ h2 ρ2 σV' H' ∧ Kp h ρ H h2 ρ2 H' ∧ wpWhile fc fb m σ h2 P, fun σ' H' n => ⟨m, Nat.lt_succ_self _, n⟩, σ2, h3, ρ3, _, s3, q, ?_⟩
      exact ⟨fun σ' h' σV' H' ρ' s' k' q' => ⟨σ', h', ρ', s', k4.trans k', q'⟩, fun σ' h' σV' H' ρ' s' k' q' => pr.nx _ _ _ _ _ s' (k4.trans k') q',
        fun σ' h' σV' H' ρ' s' k' q' => ⟨σ', h', ρ', s', k4.trans k', q'⟩, fun d h' v H' ρ' s' k' r q' => pr.rt _ _ _ _ _ s' (k4.trans k') r q', fun x σ' h' σV' H' ρ' cls dd s' k' r q' => pr.xe _ _ _ _ _ _ _ _ s' (k4.trans k') r q'⟩
    | false => exact iteF (pr.nx _ _ _ _ _ s3 k4 q)

/-- xs += ys, both shared lists -/
theorem ps_augID {i : Nat} {x : Str} {e : Expr} {p2 : Pos} {f : Sg → Hm → Res D} (hN : X.N.Nodup) (hi : X.N[i]? = some x) (hx : L2.Loc X.env.scope x) (hf : X.fn x = true ∨ X.env.scope.names.lookup x = some .local) (he : PE X e (tE X.K f)) :
    PS X (.AugAssign (.Name x p2) .Add e pos) (tS X.K W fun σ h P => (f σ h).wp fun d h1 => match σ[i]?, d with
    | some (some (.int a)), .int b => P.nx (σ.set i (some (.int (a + b)))) h1
    | _, _ => False) := by
  refine PS.w (ps_aug (i := i) hN hi hx he ip_add hf) fun D σV H ⟨σ, h, ρ, P, s, q, pr⟩ => ?_
  dsimp only at q
  cases ei : σ[i]? with
  | none =>
    rw [ei] at q
    cases k : f σ h with
    | ok d h1 => rw [k] at q; exact False.elim q
    | stuck => rw [k] at q; exact False.elim q
    | err _ _ => rw [k] at q; exact False.elim q
  | some o =>
    cases o with
    | none =>
      rw [ei] at q
      cases k : f σ h with
      | ok d h1 => rw [k] at q; exact False.elim q
      | stuck => rw [k] at q; exact False.elim q
      | err _ _ => rw [k] at q; exact False.elim q
    | some d0 =>
      rw [ei] at q
      obtain ⟨v0, ev0, r0⟩ := s.sl.get i d0 ei
      refine ⟨v0, ev0, ?_⟩
      refine tE_wp s q fun d h1 v H1 ρ1 s1 k1 r1 q => ?_
      cases d0 with
      | int a =>
        cases d with
        | int b => exact ⟨a, b, rI_int r0, rI_int r1, pr.nx _ _ _ _ _ ⟨s1.hp, s1.sl.set (.int (a + b))⟩ k1 q⟩
        | _ => exact False.elim q
      | _ => cases d <;> exact False.elim q
theorem ps_augD {i : Nat} {x : Str} {e : Expr} {p2 : Pos} {f : Sg → Hm → Res D} (hN : X.N.Nodup) (hi : X.N[i]? = some x) (hx : L2.Loc X.env.scope x) (hf : X.fn x = true ∨ X.env.scope.names.lookup x = some .local) (he : PE X e (tE X.K f)) :
    PS X (.AugAssign (.Name x p2) .Add e pos) (tS X.K W fun σ h P => (f σ h).wp fun d h1 => match σ[i]?, d with
    | some (some (.ref n)), .ref m => match listOf? h1 n, listOf? h1 m with
      | some xs, some ys => decide (xs.length + ys.length ≤ LIM) = true ∧ P.nx σ (h1.set n (.lst (xs ++ ys)))
      | _, _ => False
    | _, _ => False) := by
  refine PS.w (ps_aug (i := i) hN hi hx he (fun pins s σ H x y u w Q I rx ry q => iop_ext pins s σ H x y u w Q I rx ry q) hf) fun D σV H ⟨σ, h, ρ, P, s, q, pr⟩ => ?_
  dsimp only at q
  cases ei : σ[i]? with
  | none =>
    rw [ei] at q
    cases k : f σ h with
    | ok d h1 => rw [k] at q; exact False.elim q
    | stuck => rw [k] at q; exact False.elim q
    | err _ _ => rw [k] at q; exact False.elim q
  | some o =>
    cases o with
    | none =>
      rw [ei] at q
      cases k : f σ h with
      | ok d h1 => rw [k] at q; exact False.elim q
      | stuck => rw [k] at q; exact False.elim q
      | err _ _ => rw [k] at q; exact False.elim q
    | some d0 =>
      rw [ei] at q
      obtain ⟨v0, ev0, r0⟩ := s.sl.get i d0 ei
      refine ⟨v0, ev0, ?_⟩
      refine tE_wp s q fun d h1 v H1 ρ1 s1 k1 r1 q => ?_
      cases d0 with
      | ref n =>
        cases d with
        | ref m =>
          have q : (match listOf? h1 n, listOf? h1 m with
            | some xs, some ys => decide (xs.length + ys.length ≤ LIM) = true ∧ P.nx σ (h1.set n (.lst (xs ++ ys)))
            | _, _ => False) := q
          cases e1 : listOf? h1 n with
          | none => rw [e1] at q; exact False.elim q
          | some xs =>
            cases e2 : listOf? h1 m with
            | none => rw [e1, e2] at q; exact False.elim q
            | some ys =>
              rw [e1, e2] at q
              obtain ⟨c, q⟩ := q
              have r0' := RD.mono k1 r0
              cases r0' with
              | @ref _ a ea =>
                cases r1 with
                | @ref _ b eb =>
                  obtain ⟨vs, w1, w2⟩ := s1.hp.ref ea e1
                  obtain ⟨zs, w3, w4⟩ := s1.hp.ref eb e2
                  have eh := listOf_eq e1
                  have r4 := w2.append w4
                  have kw : Kp h1 ρ1 H1 (h1.set n (.lst (xs ++ ys))) ρ1 (upd H1 a (.lst (vs ++ zs))) := Kp.write ea eh
                  refine ⟨a, b, vs, zs, rfl, rfl, w1, w3, by rw [← w2.length, ← w4.length]; exact le_sz c, ?_⟩
                  have s2 := s1.of (s1.hp.write ea eh r4) kw
                  have same : σV.set i (some (V.ref a)) = σV := by
                    apply List.ext_getElem?
                    intro j
                    rw [List.getElem?_set]
                    split
                    · rename_i hj
                      subst hj
                      split
                      · exact ev0.symm
                      · rename_i hl
                        rw [List.getElem?_eq_none (by omega)]
                    · rfl
                  show D.nx (σV.set i (some (V.ref a))) (upd H1 a (.lst (vs ++ zs)))
                  rw [same]
                  exact pr.nx _ _ _ _ _ s2 (k1.trans kw) q
        | _ => exact False.elim q
      | _ => cases d <;> exact False.elim q
/-! ### what may raise -/
theorem ps_setX {i : Nat} {x : Str} {e : Expr} {p2 : Pos} {f : Sg → Hm → (D → Hm → Prop) → (Exn → Hm → Prop) → Prop} (hN : X.N.Nodup) (hi : X.N[i]? = some x) (hx : L2.Loc X.env.scope x) (hf : X.fn x = true ∨ X.env.scope.names.lookup x = some .local) (he : PE X e (tX X.K W f)) (hs : swapsWith e (some (.Name x p2)) pos.line X.env = pure false)
    (fm : ∀ {σ h} {Q Q' : D → Hm → Prop} {E E' : Exn → Hm → Prop}, f σ h Q E → (∀ a h, Q a h → Q' a h) → (∀ x h, E x h → E' x h) → f σ h Q' E') :
    PS X (.Assign [.Name x p2] e pos) (tS X.K W fun σ h P => f σ h (fun d h1 => P.nx (σ.set i (some d)) h1) fun x h1 => P.xe x σ h1) := by
  refine PS.w (ps_set hN hi hx he hs hf) fun D σV H ⟨σ, h, ρ, P, s, q, pr⟩ => ?_
  exact ⟨σ, h, ρ, s, fm q (fun d h1 q v H1 ρ1 s1 k1 r1 => pr.nx _ _ _ _ _ ⟨s1.hp, s1.sl.set r1⟩ k1 q) fun x h1 q cls dd H1 ρ1 s1 k1 r1 => pr.xe _ _ _ _ _ _ _ _ s1 k1 r1 q⟩
theorem ps_exX {e : Expr} {f : Sg → Hm → (D → Hm → Prop) → (Exn → Hm → Prop) → Prop} (he : PE X e (tX X.K W f)) (hs : notComp e = true)
    (fm : ∀ {σ h} {Q Q' : D → Hm → Prop} {E E' : Exn → Hm → Prop}, f σ h Q E → (∀ a h, Q a h → Q' a h) → (∀ x h, E x h → E' x h) → f σ h Q' E') :
    PS X (.Expr e pos) (tS X.K W fun σ h P => f σ h (fun _ h1 => P.nx σ h1) fun x h1 => P.xe x σ h1) := by
  refine PS.w (ps_expr he (swaps_no hs)) fun D σV H ⟨σ, h, ρ, P, s, q, pr⟩ => ?_
  exact ⟨σ, h, ρ, s, fm q (fun d h1 q v H1 ρ1 s1 k1 r1 => pr.nx _ _ _ _ _ s1 k1 q) fun x h1 q cls dd H1 ρ1 s1 k1 r1 => pr.xe _ _ _ _ _ _ _ _ s1 k1 r1 q⟩
theorem ps_retX {e : Expr} {f : Sg → Hm → (D → Hm → Prop) → (Exn → Hm → Prop) → Prop} (he : PE X e (tX X.K W f))
    (fm : ∀ {σ h} {Q Q' : D → Hm → Prop} {E E' : Exn → Hm → Prop}, f σ h Q E → (∀ a h, Q a h → Q' a h) → (∀ x h, E x h → E' x h) → f σ h Q' E') :
    PS X (.Return (some e) pos) (tS X.K W fun σ h P => f σ h P.rt fun x h1 => P.xe x σ h1) := by
  refine PS.w (ps_ret he) fun D σV H ⟨σ, h, ρ, P, s, q, pr⟩ => ?_
  exact ⟨σ, h, ρ, s, fm q (fun d h1 q v H1 ρ1 s1 k1 r1 => pr.rt _ _ _ _ _ s1.hp k1 r1 q) fun x h1 q cls dd H1 ρ1 s1 k1 r1 => pr.xe _ _ _ _ _ _ _ _ s1 k1 r1 q⟩
/-- a class of the package that is raised with a text -/
def ExcAt (K : PySem.W.Frag) (mg : Str → Option Value) (x : Str) : Prop := ∃ C, mg x = some (.ref C) ∧ PySem.W.nsIn K mainGlobals x = some (some (.ref C)) ∧ PySem.W.excIn K C [.type "ValueError", .type "Exception", .type "BaseException", .type "object"] "ValueError.__new__" = true ∧ PySem.W.keepIn K (.ref C) = true ∧
  PySem.W.subIn K (.ref C) (.type "BaseException") = some true ∧ PySem.W.typeIn K (.ref C) = some (.type "type")
theorem ps_raiseD {x m : Str} {j : Nat} {p p2 p3 : Pos} (hc : X.calm = true) (tk : Takes X W) (e : ExcAt X.K X.mg x) (hf : fldOf x = none) (hg : Gl X x) (hdb : (x == ("__debug__" : Str)) = false) :
    PS X (.Raise (some (.Call (.Name x p) [.Constant (.str m) j p2] [] p3)) none pos) (tS X.K W fun σ h P => P.xe ⟨x, .non⟩ σ h) := by
  obtain ⟨C, e1, e2, e3, e4, e5, e6⟩ := e
  refine PS.w (ps_raise hc tk (pmk_own PySem.F.excBase_ValueError e3 e1 e4 (raises_own e5 e6) hg hdb)) fun D σV H ⟨σ, h, ρ, P, s, q, pr⟩ => ?_
  refine pr.xe _ _ _ _ _ _ _ _ s Kps.refl ⟨⟨C, e2, rfl⟩, ?_⟩ q
  dsimp only
  rw [hf]
  exact ⟨rfl, rfl⟩
/-- which class an except clause takes -/
def ExmAt (K : PySem.W.Frag) (mg : Str → Option Value) (p : Str × Str) : Prop := ∃ Cx Cy, PySem.W.nsIn K mainGlobals p.1 = some (some (.ref Cx)) ∧ mg p.2 = some (.ref Cy) ∧ PySem.W.exmOne K (.ref Cx) (.ref Cy) = some (subX p.1 p.2)
def cstV : D → V
  | .str x => .str x
  | .int i => .int i
  | .bl b => .bl b
  | _ => .non
def cstB : D → Const → Bool
  | .str x, .str y => decide (x = y)
  | .int x, .int y => decide (x = y)
  | .bl x, .bool y => decide (x = y)
  | .non, .none => true
  | _, _ => false
theorem cst_pe {X : Cx} {d : D} {k : Const} {j : Nat} {p : Pos} (h : cstB d k = true) : PE X (.Constant k j p) (tC (cstV d)) := by
  unfold cstB at h
  split at h
  · rw [← of_decide_eq_true h]; exact pe_str
  · rw [← of_decide_eq_true h]; exact pe_int
  · rw [← of_decide_eq_true h]; exact pe_bl
  · exact pe_non
  · cases h
theorem cst_rd {K : PySem.W.Frag} {H : Hp} {ρ : List Addr} {M : Addr → Prop} {d : D} {k : Const} (h : cstB d k = true) : RD K H ρ M d (cstV d) := by
  unfold cstB at h
  split at h
  · exact .str _
  · exact .int _
  · exact .bl _
  · exact .non
  · cases h
/-- the clauses, one by one -/
inductive HdP (X : Cx) (rs : List Str) : List ExceptHandler → List Hd → List (Value × (Addr → Value → Option Addr → TS)) → Prop
  | nil : HdP X rs [] [] []
  | cons {x y : Str} {i j : Nat} {d : D} {k : Const} {np p1 p2 p3 p4 : Pos} {hds : List ExceptHandler} {hs : List Hd} {l : List (Value × (Addr → Value → Option Addr → TS))} {Cy : Addr} (e : ∀ r ∈ rs, ExmAt X.K X.mg (r, x)) (my : X.mg x = some (.ref Cy)) (g : Gl X x) (db : (x == ("__debug__" : Str)) = false)
      (hi : X.N[i]? = some y) (loc : L2.Loc X.env.scope y) (fn : X.fn y = true ∨ X.env.scope.names.lookup y = some .local) (kc : cstB d k = true) (r : HdP X rs hds hs l) :
      HdP X rs (.ExceptHandler (some (.Name x np)) none [.Assign [.Name y p1] (.Constant k j p2) p3] p4 :: hds) (.c x i d :: hs) ((.ref Cy, fun _ _ _ D σ H => D.nx (σ.set i (some (cstV d))) H) :: l)
theorem HdP.ok {rs : List Str} {hds : List ExceptHandler} {hs : List Hd} {l : List (Value × (Addr → Value → Option Addr → TS))} (nd : X.N.Nodup) (h : HdP X rs hds hs l) : HdsOk X hds l := by
  induction h with
  | nil => exact .nil
  | @cons x y i j d k np p1 p2 p3 p4 hds hs l Cy e my g db hi loc fn kc r ih =>
    refine .cons ⟨g, db, .inl my⟩ (fun a oe cls dd pn _ _ => ?_) ih
    have st : PS (X.suite a ((a, oe) :: pn)) (.Assign [.Name y p1] (.Constant k j p2) p3) _ := ps_set (X := X.suite a ((a, oe) :: pn)) (i := i) nd hi loc (cst_pe kc) (swaps_no rfl) fn
    exact PSs.w (pss_cons st pss_nil) fun D σ H q => q
theorem HdP.many {rs : List Str} {hds : List ExceptHandler} {hs : List Hd} {l : List (Value × (Addr → Value → Option Addr → TS))} {D : Ends} {P : Po} {h0 h' : Hm} {ρ0 ρ' : List Addr} {H0 H' : Hp} {σ' : Sg} {σV' : L2.St} {x : Exn} {cls : Value} {dd : Option Addr} (hp : HdP X rs hds hs l)
    (s : SR X.K σ' h' ρ' σV' H') (k : Kp h0 ρ0 H0 h' ρ' H') (rx : RX X.K h' ρ' H' x cls dd) (pr : PR X.K W h0 ρ0 H0 P D) (q : hdsP rs x σ' h' P hs) : wMany X.K W D l cls dd σV' H' := by
  induction hp with
  | nil => exact pr.xe _ _ _ _ _ _ _ _ s k rx q
  | @cons y z i j d kk np p1 p2 p3 p4 hds hs l Cy e my g db hi loc fn kc r ih =>
    obtain ⟨mr, q⟩ := q
    obtain ⟨Cx, C2, e1, e2, e3⟩ := e _ mr
    obtain ⟨C, f1, f2⟩ := rx.1
    rw [f1] at e1
    cases e1
    dsimp only at e2
    rw [my] at e2
    cases e2
    subst f2
    refine ⟨subX x.cls y, e3, fun b a _ => ?_, fun b => ?_⟩
    · rw [b] at q
      exact pr.nx _ _ _ _ _ ⟨s.hp, s.sl.set (cst_rd kc)⟩ k q
    · rw [b] at q
      exact ih q
theorem ps_tryD {rs : List Str} {body : List Stmt} {h₀ : ExceptHandler} {hds : List ExceptHandler} {hs : List Hd} {l : List (Value × (Addr → Value → Option Addr → TS))} {f : Sg → Hm → Po → Prop} (nd : X.N.Nodup) (hs0 : X.stack = X.env :: X.outer) (hf : X.env.frame = some X.env.locals) (tk : Takes X W)
    (hb : ∀ (W' : WX) (pn : List (Addr × Obj)) (xe : Value → Shared → Prop), Takes (X.tr pn xe) W' → PassesOwn (model X.prog X.w) X.A X.env xe → PSs (X.tr pn xe) body (tS X.K W' f)) (hp : HdP X rs (h₀ :: hds) hs l) :
    PS X (.Try body (h₀ :: hds) [] [] pos) (tS X.K W fun σ h P => f σ h { P with xe := fun x σ' h' => hdsP rs x σ' h' P hs }) := by
  refine PS.w (ps_try_many (tb := fun W' => tS X.K W' f) hs0 hf tk hb (hp.ok nd)) fun D σV H ⟨σ, h, ρ, P, s, q, pr⟩ => ?_
  exact ⟨σ, h, ρ, _, s, q, ⟨pr.nx, pr.bk, pr.ct, pr.rt, fun x σ' h' σV' H' ρ' cls dd s' k' rx q' => hp.many s' k' rx pr q'⟩⟩
end

/-! Mini 15: blocks of the small language are sound; a def by its body. -/

def gAsg : Stmt → Option (Expr × Expr × Pos) | .Assign [t] v p => some (t, v, p) | _ => none
def gExS : Stmt → Option Expr | .Expr e _ => some e | _ => none
def gRet : Stmt → Option Expr | .Return (some e) _ => some e | _ => none
def gIfS : Stmt → Option (Expr × List Stmt × List Stmt) | .If c a b _ => some (c, a, b) | _ => none
def gFor : Stmt → Option (Expr × Expr × List Stmt) | .For t i b [] _ => some (t, i, b) | _ => none
def gWh : Stmt → Option (Expr × List Stmt) | .While c b [] _ => some (c, b) | _ => none
def isBrk : Stmt → Bool | .Break _ => true | _ => false
def isCont : Stmt → Bool | .Continue _ => true | _ => false
def isPass : Stmt → Bool | .Pass _ => true | _ => false
def gNmP : Expr → Option (Str × Pos) | .Name x p => some (x, p) | _ => none
def gTupP : Expr → Option (List Expr × Nat × Pos) | .Tuple es k p => some (es, k, p) | _ => none
def gLcP : Expr → Option (Scope × Pos) | .ListComp _ _ sc p => some (sc, p) | _ => none
theorem gAsg_eq {s : Stmt} {t v : Expr} {p : Pos} (h : gAsg s = some (t, v, p)) : s = .Assign [t] v p := by
  cases s <;> first | cases h | skip
  rename_i ts v p
  match ts, h with
  | [t], h => cases h; rfl
theorem gExS_eq {s : Stmt} {e : Expr} (h : gExS s = some e) : ∃ p, s = .Expr e p := by
  cases s <;> first | cases h | skip
  exact ⟨_, rfl⟩
theorem gRet_eq {s : Stmt} {e : Expr} (h : gRet s = some e) : ∃ p, s = .Return (some e) p := by
  cases s <;> first | cases h | skip
  rename_i o p
  cases o <;> cases h
  exact ⟨_, rfl⟩
theorem gIfS_eq {s : Stmt} {c : Expr} {a b : List Stmt} (h : gIfS s = some (c, a, b)) : ∃ p, s = .If c a b p := by
  cases s <;> first | cases h | skip
  exact ⟨_, rfl⟩
theorem gFor_eq {s : Stmt} {t i : Expr} {b : List Stmt} (h : gFor s = some (t, i, b)) : ∃ p, s = .For t i b [] p := by
  cases s <;> first | cases h | skip
  rename_i t i b o p
  cases o <;> cases h
  exact ⟨_, rfl⟩
theorem gWh_eq {s : Stmt} {c : Expr} {b : List Stmt} (h : gWh s = some (c, b)) : ∃ p, s = .While c b [] p := by
  cases s <;> first | cases h | skip
  rename_i c b o p
  cases o <;> cases h
  exact ⟨_, rfl⟩
theorem gNmP_eq {e : Expr} {x : Str} {p : Pos} (h : gNmP e = some (x, p)) : e = .Name x p := by
  cases e <;> first | cases h | skip
  rfl
theorem gTupP_eq {e : Expr} {es : List Expr} {k : Nat} {p : Pos} (h : gTupP e = some (es, k, p)) : e = .Tuple es k p := by
  cases e <;> first | cases h | skip
  rfl

/-- a target that is no plain local name (one that a comprehension of the def reads) -/
def nonLoc (names : List (Str × NameKind)) (t : Expr) : Bool := match gNm t with
  | some x => decide (names.lookup x ≠ some .local)
  | none => false
def swNo (names : List (Str × NameKind)) (ts : List Expr) (v : Expr) : Bool := (match gTup v with | none => true | some _ => false) || !(ts.length == 2 || ts.length == 3) || ts.any (nonLoc names)
theorem swNo_ok {X : Cx} {ts : List Expr} {k : Nat} {p : Pos} {v : Expr} (h : swNo X.env.scope.names ts v = true) : swappedStores [.Tuple ts k p] v X.env = pure none := by
  cases e : gTup v with
  | none => exact swapped_no e
  | some vs =>
    obtain ⟨k2, p2, rfl⟩ := gTup_eq e
    unfold swNo at h
    rw [e] at h
    have h : (false || !(ts.length == 2 || ts.length == 3) || ts.any (nonLoc X.env.scope.names)) = true := h
    rw [Bool.false_or, Bool.or_eq_true] at h
    rcases h with h | h
    · unfold swappedStores
      simp only []
      refine if_pos ?_
      rw [h]
      rfl
    · unfold swappedStores
      simp only []
      split
      · rfl
      · split
        · rfl
        · split
          · rfl
          · rename_i hn
            exfalso
            apply hn
            rw [Bool.or_eq_true]
            left
            obtain ⟨t, ht, hz⟩ := List.any_eq_true.mp h
            have lt : ∀ (f : Expr → Option Str), f t = none → ∀ ts : List Expr, t ∈ ts → (ts.filterMap f).length < ts.length := by
              intro f hf ts
              induction ts with
              | nil => intro ht; cases ht
              | cons u us ih =>
                intro ht
                rcases List.mem_cons.mp ht with rfl | ht
                · rw [List.filterMap_cons_none hf]
                  exact Nat.lt_succ_of_le (List.length_filterMap_le _ _)
                · have := ih ht
                  cases q : f u with
                  | none => rw [List.filterMap_cons_none q]; exact Nat.lt_succ_of_lt this
                  | some y => rw [List.filterMap_cons_some q]; exact Nat.succ_lt_succ this
            rw [bne_iff_ne]
            refine Nat.ne_of_lt (lt _ ?_ ts ht)
            unfold nonLoc at hz
            cases t <;> first | exact Bool.noConfusion hz | skip
            rename_i id pos
            have hz : decide (X.env.scope.names.lookup id ≠ some .local) = true := hz
            have hz := of_decide_eq_true hz
            have q : (X.env.kindOf id == some NameKind.local) = false := by
              have : X.env.kindOf id ≠ some .local := hz
              simpa using this
            simp only [q, Bool.false_and]
            simp
/-- is a value swapped as it is stored? -/
def lcSw (c : Ctx) (x : Str) (px : Pos) (v : Expr) : Bool := match gLcP v with
  | some (sc, p) => swB sc p x px c.names
  | none => false

/-! ### what may raise -/
def gRaise : Stmt → Option Str | .Raise (some (.Call (.Name x _) [.Constant (.str _) _ _] [] _)) none _ => some x | _ => none
theorem gRaise_eq {s : Stmt} {x : Str} (h : gRaise s = some x) : ∃ m j p p2 p3 p4, s = .Raise (some (.Call (.Name x p) [.Constant (.str m) j p2] [] p3)) none p4 := by
  unfold gRaise at h
  split at h
  · cases h
    exact ⟨_, _, _, _, _, _, rfl⟩
  · cases h
def gAug : Stmt → Option (Str × Expr) | .AugAssign (.Name x _) .Add e _ => some (x, e) | _ => none
theorem gAug_eq {s : Stmt} {x : Str} {e : Expr} (h : gAug s = some (x, e)) : ∃ p p2, s = .AugAssign (.Name x p) .Add e p2 := by
  unfold gAug at h
  split at h
  · cases h
    exact ⟨_, _, rfl⟩
  · cases h
def gTry : Stmt → Option (List Stmt × List ExceptHandler) | .Try b hs [] [] _ => some (b, hs) | _ => none
theorem gTry_eq {s : Stmt} {b : List Stmt} {hs : List ExceptHandler} (h : gTry s = some (b, hs)) : ∃ p, s = .Try b hs [] [] p := by
  unfold gTry at h
  split at h
  · cases h
    exact ⟨_, rfl⟩
  · cases h
def gHd : ExceptHandler → Option (Str × Str × Const) | .ExceptHandler (some (.Name x _)) none [.Assign [.Name y _] (.Constant k _ _) _] _ => some (x, y, k) | _ => none
theorem gHd_eq {e : ExceptHandler} {x y : Str} {k : Const} (h : gHd e = some (x, y, k)) : ∃ np p1 j p2 p3 p4, e = .ExceptHandler (some (.Name x np)) none [.Assign [.Name y p1] (.Constant k j p2) p3] p4 := by
  unfold gHd at h
  split at h
  · cases h
    exact ⟨_, _, _, _, _, _, rfl⟩
  · cases h
def argsB (pe : Expr) : Bool := match gCall pe with
  | some (_, _ :: _, []) => true
  | _ => false
def chkX : Ex → Ctx → Expr → Bool
  | .call f es, c, pe => argsB pe && chkE (.call f es) c pe
  | .callk f es kes perm, c, pe => chkE (.callk f es kes perm) c pe
  | .isN a, c, pe => match gCmp pe with
    | some (x, [.Is], [y]) => (match gCst y with | some .none => true | _ => false) && chkX a c x
    | _ => false
  | _, _, _ => false
def chkHs (c : Ctx) (rs : List Str) : List Hd → List ExceptHandler → Bool
  | [], [] => true
  | .c x i d :: hs, eh :: hds => (match gHd eh with
    | some (x', y, k) => decide (x' = x) && isGl c x && (rs.all fun r => decide ((r, x) ∈ c.exm)) && !rs.isEmpty && decide (c.N[i]? = some y) && isLoc c y && cstB d k
    | none => false) && chkHs c rs hs hds
  | _, _ => false
mutual
def chkS : Stm → Ctx → Stmt → Bool
  | .set i e, c, st => match gAsg st with
    | some (t, v, _) => (match gNmP t with
      | some (x, _) => decide (c.N[i]? = some x) && isLoc c x && (notComp v || (gLcP v).isSome) && chkE e c v
      | none => false)
    | none => false
  | .asg is e, c, st => match gAsg st with
    | some (t, v, _) => (match gTupP t with
      | some (es, _, _) => chkNms c is es && swNo c.names es v && chkE e c v
      | none => false)
    | none => false
  | .par i j a b, c, st => match gAsg st with
    | some (t, v, _) => (match gTupP t, gTupP v with
      | some ([t1, t2], _, _), some ([v1, v2], _, _) => (match gNmP t1, gNmP t2 with
        | some (x, px), some (y, py) => decide (c.N[i]? = some x) && decide (c.N[j]? = some y) && decide (i ≠ j) && parB c.names x y px py v1 v2 && chkE a c v1 && chkE b c v2
        | _, _ => false)
      | _, _ => false)
    | none => false
  | .par3 i j l a b d, c, st => match gAsg st with
    | some (t, v, _) => (match gTupP t, gTupP v with
      | some ([t1, t2, t3], _, _), some ([v1, v2, v3], _, _) => (match gNmP t1, gNmP t2, gNmP t3 with
        | some (x, px), some (y, py), some (z, pz) => decide (c.N[i]? = some x) && decide (c.N[j]? = some y) && decide (c.N[l]? = some z) && decide (i ≠ j) && decide (i ≠ l) && decide (j ≠ l) && parB3 c.names x y z px py pz v1 v2 v3 && chkE a c v1 && chkE b c v2 && chkE d c v3
        | _, _, _ => false)
      | _, _ => false)
    | none => false
  | .setix o i e, c, st => match gAsg st with
    | some (t, v, _) => (match gSub t with
      | some (x, y) => plainIx y && chkE o c x && chkE i c y && chkE e c v
      | none => false)
    | none => false
  | .dput o i e, c, st => match gAsg st with
    | some (t, v, _) => (match gSub t with
      | some (x, y) => notComp v && plainIx y && chkE o c x && chkE i c y && chkE e c v
      | none => false)
    | none => false
  | .ex e, c, st => match gExS st with
    | some v => notComp v && chkE e c v
    | none => false
  | .ret e, c, st => match gRet st with
    | some v => chkE e c v
    | none => false
  | .ife t a b, c, st => match gIfS st with
    | some (x, y, z) => chkE t c x && chkB a c y && chkB b c z
    | none => false
  | .for_ tg it b, c, st => match gFor st with
    | some (x, y, z) => chkTg c tg x && chkI it c x y && notSet y && chkB b c z
    | none => false
  | .while_ t b, c, st => match gWh st with
    | some (x, y) => chkE t c x && chkB b c y
    | none => false
  | .brk, _, st => isBrk st
  | .cont, _, st => isCont st
  | .pass, _, st => isPass st
  | .freeze _, _, _ => false
  | .never, _, _ => true
  | .setX i e, c, st => match gAsg st with
    | some (t, v, _) => (match gNmP t with
      | some (x, _) => decide (c.N[i]? = some x) && isLoc c x && notComp v && chkX e c v
      | none => false)
    | none => false
  | .exX e, c, st => match gExS st with
    | some v => notComp v && chkX e c v
    | none => false
  | .retX e, c, st => match gRet st with
    | some v => chkX e c v
    | none => false
  | .raise x, c, st => match gRaise st with
    | some y => decide (y = x) && isGl c x && decide (x ∈ c.exc) && decide (fldOf x = none)
    | none => false
  | .augI i e, c, st => match gAug st with
    | some (x, v) => decide (c.N[i]? = some x) && isLoc c x && chkE e c v
    | none => false
  | .aug i e, c, st => match gAug st with
    | some (x, v) => decide (c.N[i]? = some x) && isLoc c x && chkE e c v
    | none => false
  | .try_ rs b hs, c, st => match gTry st with
    | some (body, h0 :: hds) => chkHs c rs hs (h0 :: hds) && chkB b c body
    | _ => false
def chkB : Blk → Ctx → List Stmt → Bool
  | .nil, _, [] => true
  | .cons (.freeze _) b, c, ss => chkB b c ss
  | .cons s b, c, st :: ss => chkS s c st && chkB b c ss
  | _, _, _ => false
end

structure GoodS (c : Ctx) (Γ : Gam) (X : Cx) (W : WX) : Prop where
  g : Good c Γ X
  p : PassesOwn (model X.prog X.w) X.A X.env X.xe
  t : Takes X W
  hs : X.stack = X.env :: X.outer
  hf : X.env.frame = some X.env.locals
  ex : ∀ x ∈ c.exc, ExcAt X.K X.mg x
  em : ∀ p ∈ c.exm, ExmAt X.K X.mg p
theorem Good.tr {c : Ctx} {Γ : Gam} {X : Cx} (G : Good c Γ X) (pn : List (Addr × Obj)) (xe : Value → Shared → Prop) : Good c Γ (X.tr pn xe) :=
  ⟨G.N, G.nd, G.names, G.kind, G.calm, G.fnn, G.units, G.gd, G.bi, fun i den e => let ⟨x, h, k⟩ := G.fn i den e; ⟨x, h, ⟨k.ex⟩⟩, fun i n ks perm den m e => let ⟨x, h, k⟩ := G.kw i n ks perm den m e; ⟨x, h, ⟨k.ex⟩⟩, G.gl⟩
theorem GoodS.tr {c : Ctx} {Γ : Gam} {X : Cx} {W W' : WX} (G : GoodS c Γ X W) {pn : List (Addr × Obj)} {xe : Value → Shared → Prop} (t : Takes (X.tr pn xe) W') (p : PassesOwn (model X.prog X.w) X.A X.env xe) : GoodS c Γ (X.tr pn xe) W' :=
  ⟨G.g.tr pn xe, p, t, G.hs, G.hf, G.ex, G.em⟩
def SndS (Γ : Gam) (s : Stm) : Prop := ∀ (c : Ctx) (X : Cx) (W : WX) (st : Stmt), GoodS c Γ X W → chkS s c st = true → PS X st (tS X.K W (wpS Γ s))
def SndB (Γ : Gam) (b : Blk) : Prop := ∀ (c : Ctx) (X : Cx) (W : WX) (ss : List Stmt), GoodS c Γ X W → chkB b c ss = true → PSs X ss (tS X.K W (wpB Γ b))
theorem pe_noX {X : Cx} {W : WX} {e : Expr} : PE X e (tX X.K W fun _ _ _ _ => False) := ⟨fun _ _ _ _ _ _ ⟨_, _, _, _, q⟩ => False.elim q⟩
theorem sndX_call (Γ : Gam) (f : Nat) (es : Exs) : ∀ (c : Ctx) (X : Cx) (W : WX) (pe : Expr), GoodS c Γ X W → chkX (.call f es) c pe = true → PE X pe (tX X.K W (evX Γ (.call f es))) := fun c X W pe G h => by
  obtain ⟨ha, h⟩ := and2 (show (argsB pe && chkE (.call f es) c pe) = true from h)
  have h2 : (match gCall pe with
    | some (x, ps, []) => decide (c.fnm[f]? = some x) && isGl c x && chkEs es c ps
    | _ => false) = true := h
  clear h
  split at h2
  · rename_i x ps e
    obtain ⟨p1, p2, rfl⟩ := gCall_eq e
    obtain ⟨h1, h3⟩ := and2 h2
    obtain ⟨h1, h4⟩ := and2 h1
    obtain ⟨gl, db⟩ := isGl_ok G.g h4
    obtain ⟨A, ns, _⟩ := (snds Γ es).a c X ps G.g h3
    have hx : evX Γ (.call f es) = fun σ h Q E => (evEs Γ es σ h).wp fun ds h1 => match Γ.fn f with
      | some den => (den ds h1).wpx Q E
      | none => False := rfl
    rw [hx]
    cases e2 : Γ.fn f with
    | none => exact PE.w (pe_noX (W := W)) fun σV H Q ⟨σ, h, ρ, s, q⟩ => ⟨σ, h, ρ, s, by
        dsimp only at q
        cases k : evEs Γ es σ h with
        | stuck => rw [k] at q; exact q
        | err _ _ => rw [k] at q; exact q
        | ok ds h1 => rw [k] at q; exact q⟩
    | some den =>
      obtain ⟨y, h5, ok⟩ := G.g.fn f den e2
      rw [of_decide_eq_true h1] at h5
      cases h5
      cases ps with
      | nil =>
        unfold argsB at ha
        rw [e] at ha
        cases ha
      | cons q qs => exact pe_callXD G.t ok gl db A ns
  · cases h2
theorem sndX_callk (Γ : Gam) (f : Nat) (es kes : Exs) (perm : List Nat) : ∀ (c : Ctx) (X : Cx) (W : WX) (pe : Expr), GoodS c Γ X W → chkX (.callk f es kes perm) c pe = true → PE X pe (tX X.K W (evX Γ (.callk f es kes perm))) := fun c X W pe G h => by
  have h2 : (match gCall pe with
    | some (x, ps, k :: ks) => decide (c.fnm[f]? = some x) && isGl c x && decide ((f, ps.length, (k :: ks).filterMap (·.arg), perm) ∈ c.kw) && decide ((k :: ks).map (·.arg) = ((k :: ks).filterMap (·.arg)).map some) && chkEs es c ps && chkKs kes c (k :: ks)
    | _ => false) = true := h
  clear h
  split at h2
  · rename_i x ps k ks e
    obtain ⟨p1, p2, rfl⟩ := gCall_eq e
    obtain ⟨h1, h3⟩ := and2 h2
    obtain ⟨h1, h4⟩ := and2 h1
    obtain ⟨h1, h5⟩ := and2 h1
    obtain ⟨h1, h6⟩ := and2 h1
    obtain ⟨h1, h7⟩ := and2 h1
    obtain ⟨gl, db⟩ := isGl_ok G.g h7
    obtain ⟨A, ns, l2⟩ := (snds Γ es).a c X ps G.g h4
    obtain ⟨B, l3⟩ := (snds Γ kes).k c X (k :: ks) G.g h3
    have hx : evX Γ (.callk f es kes perm) = fun σ h Q E => (evEs Γ es σ h).wp fun ds h1 => (evEs Γ kes σ h1).wp fun ks h2 => match Γ.fn f with
      | some den => (den (permV perm D.non ds ks) h2).wpx Q E
      | none => False := rfl
    rw [hx]
    cases e2 : Γ.fn f with
    | none => exact PE.w (pe_noX (W := W)) fun σV H Q ⟨σ, h, ρ, s, q⟩ => ⟨σ, h, ρ, s, by
        dsimp only at q
        cases k : evEs Γ es σ h with
        | stuck => rw [k] at q; exact q
        | err _ _ => rw [k] at q; exact q
        | ok ds h1 =>
          rw [k] at q
          dsimp only [Res.wp] at q
          cases k2 : evEs Γ kes σ h1 with
          | stuck => rw [k2] at q; exact q
          | err _ _ => rw [k2] at q; exact q
          | ok zs h2 => rw [k2] at q; exact q⟩
    | some den =>
      obtain ⟨y, h8, ok⟩ := G.g.kw f _ _ perm den (of_decide_eq_true h6) e2
      rw [of_decide_eq_true h1] at h8
      cases h8
      refine pe_callkXD G.t ok gl db A B ns (of_decide_eq_true h5) rfl (fun z σ h => ?_) l2 l3
      subst z
      cases es with
      | nil => rfl
      | cons a b => exact Bool.noConfusion (show false = true from h4)
  · cases h2
theorem pe_isX {X : Cx} {W : WX} {a : Expr} {j : Nat} {p2 pos : Pos} {f : Sg → Hm → (D → Hm → Prop) → (Exn → Hm → Prop) → Prop} (ha : PE X a (tX X.K W f)) (fm : ∀ {σ h} {Q Q' : D → Hm → Prop} {E E' : Exn → Hm → Prop}, f σ h Q E → (∀ a h, Q a h → Q' a h) → (∀ x h, E x h → E' x h) → f σ h Q' E') :
    PE X (.Compare a [.Is] [.Constant .none j p2] pos) (tX X.K W fun σ h Q E => f σ h (fun x h1 => Q (.bl (isNonD x)) h1) E) := by
  refine PE.w (pe_cmpR op_isN ha pe_non (nomark _)) fun σV H Q ⟨σ, h, ρ, s, q⟩ => ?_
  exact ⟨σ, h, ρ, s, fm q (fun d h1 q v H1 ρ1 s1 k1 r1 => ⟨rfl, by rw [isNon_rel r1]; exact q _ _ _ s1 k1 (.bl _)⟩) fun _ _ z => z⟩
theorem evX_more (Γ : Gam) : ∀ (e : Ex) (c : Ctx) (pe : Expr), chkX e c pe = true → ∀ {σ : Sg} {h : Hm} {Q Q' : D → Hm → Prop} {E E' : Exn → Hm → Prop}, evX Γ e σ h Q E → (∀ a h, Q a h → Q' a h) → (∀ x h, E x h → E' x h) → evX Γ e σ h Q' E'
  | .call f es, _, _, _, σ, h, Q, Q', E, E', w, m, n => by
    refine Res.wp_mono w fun ds h1 z => ?_
    cases k : Γ.fn f with
    | none => rw [k] at z; exact z
    | some den =>
      rw [k] at z
      dsimp only at z ⊢
      cases kd : den ds h1 with
      | ok a h => rw [kd] at z; exact m _ _ z
      | stuck => rw [kd] at z; exact z
      | err x h => rw [kd] at z; exact n _ _ z
  | .callk f es kes perm, _, _, _, σ, h, Q, Q', E, E', w, m, n => by
    refine Res.wp_mono w fun ds h1 z => Res.wp_mono z fun ks h2 z => ?_
    cases k : Γ.fn f with
    | none => rw [k] at z; exact z
    | some den =>
      rw [k] at z
      dsimp only at z ⊢
      cases kd : den (permV perm D.non ds ks) h2 with
      | ok a h => rw [kd] at z; exact m _ _ z
      | stuck => rw [kd] at z; exact z
      | err x h => rw [kd] at z; exact n _ _ z
  | .isN a, c, pe, hc, σ, h, Q, Q', E, E', w, m, n => by
    have h2 : (match gCmp pe with
      | some (x, [.Is], [y]) => (match gCst y with | some .none => true | _ => false) && chkX a c x
      | _ => false) = true := hc
    split at h2
    · exact evX_more Γ a c _ (and2 h2).2 (w : evX Γ a σ h _ _) (fun x h1 z => m _ _ z) n
    · cases h2
theorem sndX_isN (Γ : Gam) (a : Ex) (ih : ∀ (c : Ctx) (X : Cx) (W : WX) (pe : Expr), GoodS c Γ X W → chkX a c pe = true → PE X pe (tX X.K W (evX Γ a))) : ∀ (c : Ctx) (X : Cx) (W : WX) (pe : Expr), GoodS c Γ X W → chkX (.isN a) c pe = true → PE X pe (tX X.K W (evX Γ (.isN a))) := fun c X W pe G h => by
  have h2 : (match gCmp pe with
    | some (x, [.Is], [y]) => (match gCst y with | some .none => true | _ => false) && chkX a c x
    | _ => false) = true := h
  clear h
  split at h2
  · rename_i x y e
    obtain ⟨p, rfl⟩ := gCmp_eq e
    obtain ⟨h1, h3⟩ := and2 h2
    split at h1
    · rename_i e3
      obtain ⟨k, p3, rfl⟩ := gCst_eq' e3
      exact pe_isX (ih c X W x G h3) (evX_more Γ a c x h3)
    · cases h1
  · cases h2
theorem sndX (Γ : Gam) : ∀ (e : Ex) (c : Ctx) (X : Cx) (W : WX) (pe : Expr), GoodS c Γ X W → chkX e c pe = true → PE X pe (tX X.K W (evX Γ e)) := fun e => by
  induction e using Ex.rec (motive_2 := fun _ => True) (motive_3 := fun _ => True) (motive_4 := fun _ => True) with
  | call f es _ => exact sndX_call Γ f es
  | callk f es kes perm _ _ => exact sndX_callk Γ f es kes perm
  | isN a ih => exact sndX_isN Γ a ih
  | _ => first | exact trivial | exact fun c X W pe G h => Bool.noConfusion (show false = true from h)
theorem comp_of {e : Ex} {c : Ctx} {elt : Expr} {gs : List Comprehension} {sc : Scope} {p : Pos} (h : chkE e c (.ListComp elt gs sc p) = true) : ∃ mu own tg it cond el, e = .comp mu own tg it cond el := by
  cases e <;> first | exact Bool.noConfusion (show false = true from h) | exact ⟨_, _, _, _, _, _, rfl⟩
theorem sndS_set (Γ : Gam) (i : Nat) (e : Ex) : SndS Γ (.set i e) := fun c X W st G h => by
  have h2 : (match gAsg st with
    | some (t, v, _) => (match gNmP t with
      | some (x, _) => decide (c.N[i]? = some x) && isLoc c x && (notComp v || (gLcP v).isSome) && chkE e c v
      | none => false)
    | none => false) = true := h
  clear h
  split at h2
  · rename_i t v p e1
    have := gAsg_eq e1
    subst this
    split at h2
    · rename_i x px e2
      have := gNmP_eq e2
      subst this
      obtain ⟨h1, h3⟩ := and2 h2
      obtain ⟨h1, h4⟩ := and2 h1
      obtain ⟨h1, h5⟩ := and2 h1
      have nd : X.N.Nodup := by rw [G.g.N]; exact G.g.nd
      have hi : X.N[i]? = some x := by rw [G.g.N]; exact of_decide_eq_true h1
      have l := isLoc_ok G.g h5
      cases hc : notComp v with
      | true => exact ps_setD nd hi l.1 l.2 (snd Γ e c X v G.g h3).sE (swaps_no hc)
      | false =>
        rw [hc, Bool.false_or] at h4
        cases v with
        | ListComp elt gs sc p2 =>
          cases hs : swB sc p2 x px X.env.scope.names with
          | false => exact ps_setD nd hi l.1 l.2 (snd Γ e c X _ G.g h3).sE (by rw [swaps_lc G.g.kind, hs])
          | true =>
            obtain ⟨mu, own, tg, it, cond, el, rfl⟩ := comp_of h3
            obtain ⟨pelt, ptg, pit', ifs, sc', p3, e3, ok, hown, ns, hit, hg, ht, he⟩ := comp_parts (sndIt Γ it) (snds Γ cond) (snd Γ el) G.g h3
            cases e3
            have hy : X.env.scope.names.lookup x = some .local := by
              unfold swB at hs
              obtain ⟨hs, _⟩ := and2 hs
              exact of_decide_eq_true (and2 hs).1
            refine PS.w (ps_setLc (i := i) G.g.calm nd hi hy (by rw [swaps_lc G.g.kind, hs]) hit ok hg ht he (notSet_ok ns)) fun D σV H ⟨σ, h, ρ, P, s, q, pr⟩ => ?_
            refine tLcD (mu := mu) (Q := fun x H1 => gName i x σV H1 D.nx) hown ?_
            exact tE_wp s q fun d h1 v H1 ρ1 s1 k1 r1 q => pr.nx _ _ _ _ _ ⟨s1.hp, s1.sl.set r1⟩ k1 q
        | _ => exact Bool.noConfusion (show false = true from h4)
    · cases h2
  · cases h2
theorem sndS_asg (Γ : Gam) (is : List Nat) (e : Ex) : SndS Γ (.asg is e) := fun c X W st G h => by
  have h2 : (match gAsg st with
    | some (t, v, _) => (match gTupP t with
      | some (es, _, _) => chkNms c is es && swNo c.names es v && chkE e c v
      | none => false)
    | none => false) = true := h
  clear h
  split at h2
  · rename_i t v p e1
    have := gAsg_eq e1
    subst this
    split at h2
    · rename_i es k p2 e2
      have := gTupP_eq e2
      subst this
      obtain ⟨h1, h3⟩ := and2 h2
      obtain ⟨h1, h4⟩ := and2 h1
      have nd : X.N.Nodup := by rw [G.g.N]; exact G.g.nd
      exact ps_asgD nd G.g.calm (chkNms_ok G.g h1) (snd Γ e c X v G.g h3).sE (swNo_ok (by rw [G.g.names]; exact h4))
    · cases h2
  · cases h2
theorem sndS_par (Γ : Gam) (i j : Nat) (a b : Ex) : SndS Γ (.par i j a b) := fun c X W st G h => by
  have h2 : (match gAsg st with
    | some (t, v, _) => (match gTupP t, gTupP v with
      | some ([t1, t2], _, _), some ([v1, v2], _, _) => (match gNmP t1, gNmP t2 with
        | some (x, px), some (y, py) => decide (c.N[i]? = some x) && decide (c.N[j]? = some y) && decide (i ≠ j) && parB c.names x y px py v1 v2 && chkE a c v1 && chkE b c v2
        | _, _ => false)
      | _, _ => false)
    | none => false) = true := h
  clear h
  split at h2
  · rename_i t v p e1
    have := gAsg_eq e1
    subst this
    split at h2
    · rename_i t1 t2 k p2 v1 v2 k2 p3 e2 e3
      have := gTupP_eq e2
      subst this
      have := gTupP_eq e3
      subst this
      split at h2
      · rename_i x px y py e4 e5
        have := gNmP_eq e4
        subst this
        have := gNmP_eq e5
        subst this
        obtain ⟨h1, h3⟩ := and2 h2
        obtain ⟨h1, h4⟩ := and2 h1
        obtain ⟨h1, h5⟩ := and2 h1
        obtain ⟨h1, h6⟩ := and2 h1
        obtain ⟨h1, h7⟩ := and2 h1
        have nd : X.N.Nodup := by rw [G.g.N]; exact G.g.nd
        exact ps_parD nd G.g.kind G.g.calm (by rw [G.g.N]; exact of_decide_eq_true h1) (by rw [G.g.N]; exact of_decide_eq_true h7) (of_decide_eq_true h6) (by rw [G.g.names]; exact h5) (snd Γ a c X v1 G.g h4).sE (snd Γ b c X v2 G.g h3).sE
      · cases h2
    · cases h2
  · cases h2
theorem sndS_par3 (Γ : Gam) (i j l : Nat) (a b d : Ex) : SndS Γ (.par3 i j l a b d) := fun c X W st G h => by
  have h2 : (match gAsg st with
    | some (t, v, _) => (match gTupP t, gTupP v with
      | some ([t1, t2, t3], _, _), some ([v1, v2, v3], _, _) => (match gNmP t1, gNmP t2, gNmP t3 with
        | some (x, px), some (y, py), some (z, pz) => decide (c.N[i]? = some x) && decide (c.N[j]? = some y) && decide (c.N[l]? = some z) && decide (i ≠ j) && decide (i ≠ l) && decide (j ≠ l) && parB3 c.names x y z px py pz v1 v2 v3 && chkE a c v1 && chkE b c v2 && chkE d c v3
        | _, _, _ => false)
      | _, _ => false)
    | none => false) = true := h
  clear h
  split at h2
  · rename_i t v p e1
    have := gAsg_eq e1
    subst this
    split at h2
    · rename_i t1 t2 t3 k p2 v1 v2 v3 k2 p3 e2 e3
      have := gTupP_eq e2
      subst this
      have := gTupP_eq e3
      subst this
      split at h2
      · rename_i x px y py z pz e4 e5 e6
        have := gNmP_eq e4
        subst this
        have := gNmP_eq e5
        subst this
        have := gNmP_eq e6
        subst this
        obtain ⟨h1, k10⟩ := and2 h2
        obtain ⟨h1, k9⟩ := and2 h1
        obtain ⟨h1, k8⟩ := and2 h1
        obtain ⟨h1, k7⟩ := and2 h1
        obtain ⟨h1, k6⟩ := and2 h1
        obtain ⟨h1, k5⟩ := and2 h1
        obtain ⟨h1, k4⟩ := and2 h1
        obtain ⟨h1, k3⟩ := and2 h1
        obtain ⟨k1, k2⟩ := and2 h1
        have nd : X.N.Nodup := by rw [G.g.N]; exact G.g.nd
        exact ps_par3D nd G.g.kind G.g.calm (by rw [G.g.N]; exact of_decide_eq_true k1) (by rw [G.g.N]; exact of_decide_eq_true k2) (by rw [G.g.N]; exact of_decide_eq_true k3) (of_decide_eq_true k4) (of_decide_eq_true k5) (of_decide_eq_true k6) (by rw [G.g.names]; exact k7) (snd Γ a c X v1 G.g k8).sE (snd Γ b c X v2 G.g k9).sE (snd Γ d c X v3 G.g k10).sE
      · cases h2
    · cases h2
  · cases h2
theorem sndS_setix (Γ : Gam) (o i e : Ex) : SndS Γ (.setix o i e) := fun c X W st G h => by
  have h2 : (match gAsg st with
    | some (t, v, _) => (match gSub t with
      | some (x, y) => plainIx y && chkE o c x && chkE i c y && chkE e c v
      | none => false)
    | none => false) = true := h
  clear h
  split at h2
  · rename_i t v p e1
    have := gAsg_eq e1
    subst this
    split at h2
    · rename_i x y e2
      obtain ⟨p2, rfl⟩ := gSub_eq e2
      obtain ⟨h1, h3⟩ := and2 h2
      obtain ⟨h1, h4⟩ := and2 h1
      obtain ⟨h1, h5⟩ := and2 h1
      exact ps_setixD (snd Γ o c X x G.g h5).sE (snd Γ i c X y G.g h4).sE (snd Γ e c X v G.g h3).sE h1
    · cases h2
  · cases h2
theorem sndS_dput (Γ : Gam) (o i e : Ex) : SndS Γ (.dput o i e) := fun c X W st G h => by
  have h2 : (match gAsg st with
    | some (t, v, _) => (match gSub t with
      | some (x, y) => notComp v && plainIx y && chkE o c x && chkE i c y && chkE e c v
      | none => false)
    | none => false) = true := h
  clear h
  split at h2
  · rename_i t v p e1
    have := gAsg_eq e1
    subst this
    split at h2
    · rename_i x y e2
      obtain ⟨p2, rfl⟩ := gSub_eq e2
      obtain ⟨h1, h3⟩ := and2 h2
      obtain ⟨h1, h4⟩ := and2 h1
      obtain ⟨h1, h5⟩ := and2 h1
      obtain ⟨h0, h1⟩ := and2 h1
      exact ps_dputD G.g.units (snd Γ o c X x G.g h5).sE (snd Γ i c X y G.g h4).sE (snd Γ e c X v G.g h3).sE h1 h0
    · cases h2
  · cases h2
theorem sndS_ex (Γ : Gam) (e : Ex) : SndS Γ (.ex e) := fun c X W st G h => by
  have h2 : (match gExS st with
    | some v => notComp v && chkE e c v
    | none => false) = true := h
  clear h
  split at h2
  · rename_i v e1
    obtain ⟨p, rfl⟩ := gExS_eq e1
    obtain ⟨h1, h3⟩ := and2 h2
    exact ps_exD (snd Γ e c X v G.g h3).sE h1
  · cases h2
theorem sndS_ret (Γ : Gam) (e : Ex) : SndS Γ (.ret e) := fun c X W st G h => by
  have h2 : (match gRet st with
    | some v => chkE e c v
    | none => false) = true := h
  clear h
  split at h2
  · rename_i v e1
    obtain ⟨p, rfl⟩ := gRet_eq e1
    exact ps_retD (snd Γ e c X v G.g h2).sE
  · cases h2
theorem sndS_ife {Γ : Gam} {t : Ex} {a b : Blk} (pa : SndB Γ a) (pb : SndB Γ b) : SndS Γ (.ife t a b) := fun c X W st G h => by
  have h2 : (match gIfS st with
    | some (x, y, z) => chkE t c x && chkB a c y && chkB b c z
    | none => false) = true := h
  clear h
  split at h2
  · rename_i x y z e1
    obtain ⟨p, rfl⟩ := gIfS_eq e1
    obtain ⟨h1, h3⟩ := and2 h2
    obtain ⟨h1, h4⟩ := and2 h1
    exact ps_ifD (snd Γ t c X x G.g h1).sT (pa c X W y G h4) (pb c X W z G h3)
  · cases h2
theorem sndS_for {Γ : Gam} {tg : Tg} {it : It} {b : Blk} (pb : SndB Γ b) : SndS Γ (.for_ tg it b) := fun c X W st G h => by
  have h2 : (match gFor st with
    | some (x, y, z) => chkTg c tg x && chkI it c x y && notSet y && chkB b c z
    | none => false) = true := h
  clear h
  split at h2
  · rename_i x y z e1
    obtain ⟨p, rfl⟩ := gFor_eq e1
    obtain ⟨h1, h3⟩ := and2 h2
    obtain ⟨h1, h4⟩ := and2 h1
    obtain ⟨h1, h5⟩ := and2 h1
    exact ps_forD G.p G.g.calm (sndIt Γ it c X y x G.g h5) (chkTg_ok G.g h1) (pb c X W z G h3) h4
  · cases h2
theorem sndS_while {Γ : Gam} {t : Ex} {b : Blk} (pb : SndB Γ b) : SndS Γ (.while_ t b) := fun c X W st G h => by
  have h2 : (match gWh st with
    | some (x, y) => chkE t c x && chkB b c y
    | none => false) = true := h
  clear h
  split at h2
  · rename_i x y e1
    obtain ⟨p, rfl⟩ := gWh_eq e1
    obtain ⟨h1, h3⟩ := and2 h2
    exact ps_whileD G.p (snd Γ t c X x G.g h1).sT (pb c X W y G h3)
  · cases h2
theorem sndB_cons {Γ : Gam} {s : Stm} {b : Blk} (hs : ∀ i, s ≠ .freeze i) (ps : SndS Γ s) (pb : SndB Γ b) : SndB Γ (.cons s b) := fun c X W ss G h => by
  cases ss with
  | nil => cases s <;> first | exact absurd rfl (hs _) | exact Bool.noConfusion (show false = true from h)
  | cons st ss =>
    have h : (chkS s c st && chkB b c ss) = true := by cases s <;> first | exact absurd rfl (hs _) | exact h
    obtain ⟨h1, h3⟩ := and2 h
    have q := pss_consD (ps c X W st G h1) (pb c X W ss G h3)
    exact q
theorem sndS_setX (Γ : Gam) (i : Nat) (e : Ex) : SndS Γ (.setX i e) := fun c X W st G h => by
  have h2 : (match gAsg st with
    | some (t, v, _) => (match gNmP t with
      | some (x, _) => decide (c.N[i]? = some x) && isLoc c x && notComp v && chkX e c v
      | none => false)
    | none => false) = true := h
  clear h
  split at h2
  · rename_i t v p e1
    have := gAsg_eq e1
    subst this
    split at h2
    · rename_i x px e2
      have := gNmP_eq e2
      subst this
      obtain ⟨h1, h3⟩ := and2 h2
      obtain ⟨h1, h4⟩ := and2 h1
      obtain ⟨h1, h5⟩ := and2 h1
      have l := isLoc_ok G.g h5
      exact ps_setX (by rw [G.g.N]; exact G.g.nd) (by rw [G.g.N]; exact of_decide_eq_true h1) l.1 l.2 (sndX Γ e c X W v G h3) (swaps_no h4) (evX_more Γ e c v h3)
    · cases h2
  · cases h2
theorem sndS_exX (Γ : Gam) (e : Ex) : SndS Γ (.exX e) := fun c X W st G h => by
  have h2 : (match gExS st with
    | some v => notComp v && chkX e c v
    | none => false) = true := h
  clear h
  split at h2
  · rename_i v e1
    obtain ⟨p, rfl⟩ := gExS_eq e1
    obtain ⟨h1, h3⟩ := and2 h2
    exact ps_exX (sndX Γ e c X W v G h3) h1 (evX_more Γ e c v h3)
  · cases h2
theorem sndS_retX (Γ : Gam) (e : Ex) : SndS Γ (.retX e) := fun c X W st G h => by
  have h2 : (match gRet st with
    | some v => chkX e c v
    | none => false) = true := h
  clear h
  split at h2
  · rename_i v e1
    obtain ⟨p, rfl⟩ := gRet_eq e1
    exact ps_retX (sndX Γ e c X W v G h2) (evX_more Γ e c v h2)
  · cases h2
theorem sndS_raise (Γ : Gam) (x : Str) : SndS Γ (.raise x) := fun c X W st G h => by
  have h2 : (match gRaise st with
    | some y => decide (y = x) && isGl c x && decide (x ∈ c.exc) && decide (fldOf x = none)
    | none => false) = true := h
  clear h
  split at h2
  · rename_i y e1
    obtain ⟨m, j, p, p2, p3, p4, rfl⟩ := gRaise_eq e1
    obtain ⟨h1, h3⟩ := and2 h2
    obtain ⟨h1, h4⟩ := and2 h1
    obtain ⟨h1, h5⟩ := and2 h1
    have ey := of_decide_eq_true h1
    subst ey
    obtain ⟨gl, db⟩ := isGl_ok G.g h5
    exact ps_raiseD G.g.calm G.t (G.ex _ (of_decide_eq_true h4)) (of_decide_eq_true h3) gl db
  · cases h2
theorem sndS_aug (Γ : Gam) (i : Nat) (e : Ex) : SndS Γ (.aug i e) := fun c X W st G h => by
  have h2 : (match gAug st with
    | some (x, v) => decide (c.N[i]? = some x) && isLoc c x && chkE e c v
    | none => false) = true := h
  clear h
  split at h2
  · rename_i x v e1
    obtain ⟨p, p2, rfl⟩ := gAug_eq e1
    obtain ⟨h1, h3⟩ := and2 h2
    obtain ⟨h1, h4⟩ := and2 h1
    have l := isLoc_ok G.g h4
    exact ps_augD (by rw [G.g.N]; exact G.g.nd) (by rw [G.g.N]; exact of_decide_eq_true h1) l.1 l.2 (snd Γ e c X v G.g h3).sE
  · cases h2
theorem sndS_augI (Γ : Gam) (i : Nat) (e : Ex) : SndS Γ (.augI i e) := fun c X W st G h => by
  have h2 : (match gAug st with
    | some (x, v) => decide (c.N[i]? = some x) && isLoc c x && chkE e c v
    | none => false) = true := h
  clear h
  split at h2
  · rename_i x v e1
    obtain ⟨p, p2, rfl⟩ := gAug_eq e1
    obtain ⟨h1, h3⟩ := and2 h2
    obtain ⟨h1, h4⟩ := and2 h1
    have l := isLoc_ok G.g h4
    exact ps_augID (by rw [G.g.N]; exact G.g.nd) (by rw [G.g.N]; exact of_decide_eq_true h1) l.1 l.2 (snd Γ e c X v G.g h3).sE
  · cases h2
theorem chkHs_ok {c : Ctx} {Γ : Gam} {X : Cx} {W : WX} (G : GoodS c Γ X W) {rs : List Str} : ∀ {hs : List Hd} {hds : List ExceptHandler}, chkHs c rs hs hds = true → ∃ l, HdP X rs hds hs l
  | [], [], _ => ⟨[], .nil⟩
  | .c x i d :: hs, eh :: hds, h => by
    have h2 : ((match gHd eh with
      | some (x', y, k) => decide (x' = x) && isGl c x && (rs.all fun r => decide ((r, x) ∈ c.exm)) && !rs.isEmpty && decide (c.N[i]? = some y) && isLoc c y && cstB d k
      | none => false) && chkHs c rs hs hds) = true := h
    obtain ⟨h1, h2⟩ := and2 h2
    obtain ⟨l, hl⟩ := chkHs_ok G h2
    split at h1
    · rename_i x' y k e1
      obtain ⟨np, p1, j, p2, p3, p4, rfl⟩ := gHd_eq e1
      obtain ⟨h1, k1⟩ := and2 h1
      obtain ⟨h1, k2⟩ := and2 h1
      obtain ⟨h1, k3⟩ := and2 h1
      obtain ⟨h1, k4⟩ := and2 h1
      obtain ⟨h1, k5⟩ := and2 h1
      obtain ⟨h1, k6⟩ := and2 h1
      have ex := of_decide_eq_true h1
      subst ex
      obtain ⟨gl, db⟩ := isGl_ok G.g k6
      have lc := isLoc_ok G.g k2
      have em : ∀ r ∈ rs, ExmAt X.K X.mg (r, x') := fun r hr => G.em _ (of_decide_eq_true (List.all_eq_true.mp k5 r hr))
      obtain ⟨Cy, my⟩ : ∃ Cy, X.mg x' = some (.ref Cy) := by
        cases rs with
        | nil => cases k4
        | cons r rs =>
          obtain ⟨_, Cy, _, q, _⟩ := em r List.mem_cons_self
          exact ⟨Cy, q⟩
      exact ⟨_, .cons em my gl db (by rw [G.g.N]; exact of_decide_eq_true k3) lc.1 lc.2 k1 hl⟩
    · cases h1
  | [], _ :: _, h => by cases h
  | .c _ _ _ :: _, [], h => by cases h
theorem sndS_try {Γ : Gam} {rs : List Str} {b : Blk} {hs : List Hd} (pb : SndB Γ b) : SndS Γ (.try_ rs b hs) := fun c X W st G h => by
  have h2 : (match gTry st with
    | some (body, h0 :: hds) => chkHs c rs hs (h0 :: hds) && chkB b c body
    | _ => false) = true := h
  clear h
  split at h2
  · rename_i body h0 hds e1
    obtain ⟨p, rfl⟩ := gTry_eq e1
    obtain ⟨h1, h3⟩ := and2 h2
    obtain ⟨l, hl⟩ := chkHs_ok G h1
    exact ps_tryD (by rw [G.g.N]; exact G.g.nd) G.hs G.hf G.t (fun W' pn xe tk po => pb c (X.tr pn xe) W' body (G.tr tk po) h3) hl
  · cases h2
mutual
theorem sndS (Γ : Gam) : ∀ s : Stm, SndS Γ s
  | .set i e => sndS_set Γ i e
  | .asg is e => sndS_asg Γ is e
  | .par i j a b => sndS_par Γ i j a b
  | .par3 i j l a b d => sndS_par3 Γ i j l a b d
  | .setix o i e => sndS_setix Γ o i e
  | .dput o i e => sndS_dput Γ o i e
  | .ex e => sndS_ex Γ e
  | .ret e => sndS_ret Γ e
  | .ife _ a b => sndS_ife (sndB Γ a) (sndB Γ b)
  | .for_ _ _ b => sndS_for (sndB Γ b)
  | .while_ _ b => sndS_while (sndB Γ b)
  | .brk => fun c X W st G h => by cases st <;> first | exact Bool.noConfusion (show false = true from h) | exact ps_brkD
  | .cont => fun c X W st G h => by cases st <;> first | exact Bool.noConfusion (show false = true from h) | exact ps_contD
  | .pass => fun c X W st G h => by cases st <;> first | exact Bool.noConfusion (show false = true from h) | exact ps_passD
  | .freeze _ => fun c X W st G h => Bool.noConfusion (show false = true from h)
  | .never => fun c X W st G h => ps_nevD
  | .setX i e => sndS_setX Γ i e
  | .exX e => sndS_exX Γ e
  | .retX e => sndS_retX Γ e
  | .raise x => sndS_raise Γ x
  | .aug i e => sndS_aug Γ i e
  | .augI i e => sndS_augI Γ i e
  | .try_ _ b _ => sndS_try (sndB Γ b)
theorem sndB (Γ : Gam) : ∀ b : Blk, SndB Γ b
  | .nil => fun c X W ss G h => by
    cases ss with
    | nil => exact pss_nilD
    | cons a b => exact Bool.noConfusion (show false = true from h)
  | .cons (.freeze i) b => fun c X W ss G h => pss_freezeD (sndB Γ b c X W ss G (by cases ss <;> exact h))
  | .cons (.set i e) b => sndB_cons (fun _ z => by cases z) (sndS_set Γ i e) (sndB Γ b)
  | .cons (.asg is e) b => sndB_cons (fun _ z => by cases z) (sndS_asg Γ is e) (sndB Γ b)
  | .cons (.par i j x y) b => sndB_cons (fun _ z => by cases z) (sndS_par Γ i j x y) (sndB Γ b)
  | .cons (.par3 i j l x y z) b => sndB_cons (fun _ z => by cases z) (sndS_par3 Γ i j l x y z) (sndB Γ b)
  | .cons (.setix o i e) b => sndB_cons (fun _ z => by cases z) (sndS_setix Γ o i e) (sndB Γ b)
  | .cons (.dput o i e) b => sndB_cons (fun _ z => by cases z) (sndS_dput Γ o i e) (sndB Γ b)
  | .cons (.ex e) b => sndB_cons (fun _ z => by cases z) (sndS_ex Γ e) (sndB Γ b)
  | .cons (.ret e) b => sndB_cons (fun _ z => by cases z) (sndS_ret Γ e) (sndB Γ b)
  | .cons (.ife t x y) b => sndB_cons (fun _ z => by cases z) (sndS_ife (sndB Γ x) (sndB Γ y)) (sndB Γ b)
  | .cons (.for_ _ _ x) b => sndB_cons (fun _ z => by cases z) (sndS_for (sndB Γ x)) (sndB Γ b)
  | .cons (.while_ _ x) b => sndB_cons (fun _ z => by cases z) (sndS_while (sndB Γ x)) (sndB Γ b)
  | .cons .brk b => sndB_cons (fun _ z => by cases z) (sndS Γ .brk) (sndB Γ b)
  | .cons .cont b => sndB_cons (fun _ z => by cases z) (sndS Γ .cont) (sndB Γ b)
  | .cons .pass b => sndB_cons (fun _ z => by cases z) (sndS Γ .pass) (sndB Γ b)
  | .cons .never b => sndB_cons (fun _ z => by cases z) (sndS Γ .never) (sndB Γ b)
  | .cons (.setX i e) b => sndB_cons (fun _ z => by cases z) (sndS_setX Γ i e) (sndB Γ b)
  | .cons (.exX e) b => sndB_cons (fun _ z => by cases z) (sndS_exX Γ e) (sndB Γ b)
  | .cons (.retX e) b => sndB_cons (fun _ z => by cases z) (sndS_retX Γ e) (sndB Γ b)
  | .cons (.aug i e) b => sndB_cons (fun _ z => by cases z) (sndS_aug Γ i e) (sndB Γ b)
  | .cons (.augI i e) b => sndB_cons (fun _ z => by cases z) (sndS_augI Γ i e) (sndB Γ b)
  | .cons (.raise x) b => sndB_cons (fun _ z => by cases z) (sndS_raise Γ x) (sndB Γ b)
  | .cons (.try_ _ x _) b => sndB_cons (fun _ z => by cases z) (sndS_try (sndB Γ x)) (sndB Γ b)
end

/-! Mini 16: a def by its body; the law. -/

/-! ### how a def ends: shared things of its own are closed, and forgotten -/
def belowO (m : Nat) : MO → Bool
  | .lst xs => belowDs m xs
  | .dic _ xs => belowDs m xs
  | .gone => true
mutual
theorem belowD_mono1 {n m : Nat} (h : n ≤ m) : ∀ d, belowD n d = true → belowD m d = true
  | .tup xs, e => belowDs_mono1 h xs e
  | .lst xs, e => belowDs_mono1 h xs e
  | .wtup xs, e => belowDs_mono1 h xs e
  | .dict _ xs, e => belowDs_mono1 h xs e
  | .fn _ _, _ => rfl
  | .ref k, e => decide_eq_true (Nat.lt_of_lt_of_le (of_decide_eq_true e) h)
  | .non, _ => rfl
  | .bl _, _ => rfl
  | .int _, _ => rfl
  | .str _, _ => rfl
theorem belowDs_mono1 {n m : Nat} (h : n ≤ m) : ∀ ds, belowDs n ds = true → belowDs m ds = true
  | [], _ => rfl
  | d :: ds, e => by
    unfold belowDs at e ⊢
    rw [Bool.and_eq_true] at e ⊢
    exact ⟨belowD_mono1 h d e.1, belowDs_mono1 h ds e.2⟩
end
theorem belowD_mono {n m : Nat} (h : n ≤ m) : (∀ d, belowD n d = true → belowD m d = true) ∧ ∀ ds, belowDs n ds = true → belowDs m ds = true := ⟨belowD_mono1 h, belowDs_mono1 h⟩
inductive Fz (h0 : Hm) : D → Hm → D → Hm → Prop
  | refl {d : D} {h : Hm} : Fz h0 d h d h
  | close {n : Nat} {h : Hm} {xs : List D} {r : D} {h' : Hm} : listOf? h n = some xs → Fz h0 (.lst xs) (h.set n .gone) r h' → Fz h0 (.ref n) h r h'
  | cut {m : Nat} {d : D} {h : Hm} {r : D} {h' : Hm} : h0.length ≤ m → m ≤ h.length → belowD m d = true → (∀ i o, i < m → h[i]? = some o → h0[i]? = some o ∨ belowO m o = true) → Fz h0 d (h.take m) r h' → Fz h0 d h r h'
section
variable {K : PySem.W.Frag}
theorem fz_ok {h0 : Hm} {ρ0 : List Addr} {H0 H2 : Hp} {d : D} {h2 : Hm} {r : D} {h' : Hm} (z : Fz h0 d h2 r h') (hr0 : HR K h0 ρ0 H0) : ∀ {ρ2 : List Addr} {v : V}, HR K h2 ρ2 H2 → Kp h0 ρ0 H0 h2 ρ2 H2 → Rel K h2 ρ2 H2 d v →
    ∃ ρ', HR K h' ρ' H2 ∧ Kp h0 ρ0 H0 h' ρ' H2 ∧ Rel K h' ρ' H2 r v := by
  have hl0 := hr0.len
  induction z with
  | refl => exact fun hr k r => ⟨_, hr, k, r⟩
  | @close n h xs r h' e z ih =>
    intro ρ2 v hr k r
    cases r with
    | @ref _ a ea =>
      have rc := hr.close ea (listOf_eq e)
      exact ih rc.1 (k.trans (Kp.close ea (listOf_eq e))) rc.2
  | @cut m d h r h' h1 h2 b1 b2 z ih =>
    intro ρ2 v hr k r
    have hget : ∀ (n : Nat) (o : MO), (h.take m)[n]? = some o → h[n]? = some o ∧ n < m := fun n o q => by
      have hn : n < (h.take m).length := (List.getElem?_eq_some_iff.mp q).1
      rw [List.length_take] at hn
      rw [List.getElem?_take_of_lt (by omega)] at q
      exact ⟨q, by omega⟩
    have hρ : ∀ (i : Nat) (a : Addr), i < m → ρ2[i]? = some a → (ρ2.take m)[i]? = some a := fun i a hi q => by
      rw [List.getElem?_take_of_lt hi]
      exact q
    have hρ' : ∀ (i : Nat) (a : Addr), (ρ2.take m)[i]? = some a → ρ2[i]? = some a := fun i a q => by
      have hn : i < (ρ2.take m).length := (List.getElem?_eq_some_iff.mp q).1
      rw [List.length_take] at hn
      rw [List.getElem?_take_of_lt (by omega)] at q
      exact q
    have hM : ∀ a, Mu (ρ2.take m) (h.take m) a → Mu ρ2 h a := fun a ⟨n, o, q1, q2, q3⟩ => ⟨n, o, hρ' n a q1, (hget n o q2).1, q3⟩
    refine ih (ρ2 := ρ2.take m) ⟨?_, hr.nd.sublist (List.take_sublist _ _), fun n o a q1 q2 => ?_⟩ ⟨fun a o q nM => ?_, fun n a q => ?_⟩ (RD.down hρ hM b1 r)
    · rw [List.length_take, List.length_take, hr.len]
    · have z1 := hr.obj n o a (hget n o q1).1 (hρ' n a q2)
      have b : belowO m o = true := by
        rcases b2 n o (hget n o q1).2 (hget n o q1).1 with e | b
        · have hn : n < h0.length := (List.getElem?_eq_some_iff.mp e).1
          obtain ⟨a0, ha0⟩ : ∃ a0, ρ0[n]? = some a0 := ⟨ρ0[n]'(by rw [hl0]; exact hn), by simp [hl0, hn]⟩
          have z0 := hr0.obj n o a0 e ha0
          cases o with
          | gone => rfl
          | lst xs =>
            obtain ⟨vs, _, z3⟩ := z0
            have := RDs.isBelow hl0 z3
            have mono : ∀ (n m : Nat), n ≤ m → (∀ d, belowD n d = true → belowD m d = true) ∧ ∀ ds, belowDs n ds = true → belowDs m ds = true := fun n m hnm => belowD_mono hnm
            exact (mono _ _ h1).2 xs this
          | dic ks xs =>
            obtain ⟨vs, _, z3, _⟩ := z0
            have := RDs.isBelow hl0 z3
            exact (belowD_mono h1).2 xs this
        · exact b
      cases o with
      | gone => exact z1
      | lst xs =>
        obtain ⟨vs, z2, z3⟩ := z1
        exact ⟨vs, z2, RDs.down hρ hM b z3⟩
      | dic ks xs =>
        obtain ⟨vs, z2, z3, z4⟩ := z1
        exact ⟨vs, z2, RDs.down hρ hM b z3, z4⟩
    · obtain ⟨a1, a2⟩ := k.obj a o q nM
      exact ⟨a1, fun z => a2 (hM a z)⟩
    · have hn : n < ρ0.length := (List.getElem?_eq_some_iff.mp q).1
      exact hρ n a (by omega) (k.ref n a q)
theorem Fz.back {h t : Hm} {d : D} (b : belowD h.length d = true) : Fz h d (h ++ t) d h := by
  refine .cut (m := h.length) (Nat.le_refl _) (by simp) b (fun i o hi e => .inl ?_) ?_
  · rw [List.getElem?_append_left hi] at e
    exact e
  · rw [List.take_left]
    exact .refl
/-- the common end: what was there is as it was -/
theorem belowDs_of {n : Nat} {xs : List D} (h : ∀ x ∈ xs, belowD n x = true) : belowDs n xs = true := by
  induction xs with
  | nil => rfl
  | cons x xs ih =>
    unfold belowDs
    rw [h x List.mem_cons_self, ih fun y hy => h y (List.mem_cons_of_mem _ hy)]
    rfl
end

/-! ### defs of a module -/
/-- what a def's name calls -/
def FnAt (P : Program) (w : World) (K : PySem.W.Frag) (mg : Str → Option Value) (base : Heap) (k : Nat) (x : Str) (den : List D → Hm → Res D) : Prop :=
  ∃ (f : Addr) (fd : FuncData) (ps : List Str), FnOk P w K mg base (L2.CX P w) k f fd ps (spD K ps.length den) ∧ mg x = some (.ref f) ∧ PySem.W.keepIn K (.ref f) = true ∧ Binds K fd ps [] ∧ LenOk den ps.length ∧ PySem.W.nsIn K mainGlobals x = some (some (.ref f))
def FnKAt (P : Program) (w : World) (K : PySem.W.Frag) (mg : Str → Option Value) (base : Heap) (k : Nat) (x : Str) (den : List D → Hm → Res D) (n : Nat) (ks : List Str) (perm : List Nat) : Prop :=
  ∃ (f : Addr) (fd : FuncData) (ps : List Str), FnOk P w K mg base (L2.CX P w) k f fd ps (spD K ps.length den) ∧ mg x = some (.ref f) ∧ PySem.W.keepIn K (.ref f) = true ∧
    (∀ (s : Shared) (us ws : List Value), K.In s.heap → us.length = n → ws.length = ks.length → BindsTo s fd ⟨us, ks.zip ws⟩ (ps.zip (permV perm Value.none us ws))) ∧ LenOk den ps.length
section
variable {P : Program} {w : World} {K : PySem.W.Frag} {mg : Str → Option Value} {base : Heap} {k j : Nat} {x : Str} {den : List D → Hm → Res D}
theorem FnAt.mono (F : FnAt P w K mg base j x den) (h : j ≤ k) : FnAt P w K mg base k x den := by
  obtain ⟨f, fd, ps, F, r⟩ := F
  exact ⟨f, fd, ps, F.mono h, r⟩
theorem FnKAt.mono {n : Nat} {ks : List Str} {perm : List Nat} (F : FnKAt P w K mg base j x den n ks perm) (h : j ≤ k) : FnKAt P w K mg base k x den n ks perm := by
  obtain ⟨f, fd, ps, F, r⟩ := F
  exact ⟨f, fd, ps, F.mono h, r⟩
/-- what a def's body may call: by number -/
structure EnvOk (P : Program) (w : World) (K : PySem.W.Frag) (mg : Str → Option Value) (base : Heap) (k : Nat) (c : Ctx) (Γ : Gam) : Prop where
  bi : ∀ x ∈ bNames, mg x = none
  fn : ∀ i den, Γ.fn i = some den → ∃ x, c.fnm[i]? = some x ∧ FnAt P w K mg base k x den
  kw : ∀ i n ks perm den, (i, n, ks, perm) ∈ c.kw → Γ.fn i = some den → ∃ x, c.fnm[i]? = some x ∧ FnKAt P w K mg base k x den n ks perm
  gl : ∀ g d, Γ.gl g = some d → ∃ x u v, c.glm[g]? = some x ∧ mg x = some u ∧ RelV v u ∧ ∀ H ρ M, RD K H ρ M d v
  ex : ∀ x ∈ c.exc, ExcAt K mg x
  em : ∀ p ∈ c.exm, ExmAt K mg p
/-- the slots at the entry -/
def startD (N : List Str) (ds : List D) : Sg := ds.map some ++ List.replicate (N.length - ds.length) none
theorem start_rel {N : List Str} {h : Hm} {ρ : List Addr} {H : Hp} {ds : List D} {vs : List V} (r : Rels K h ρ H ds vs) : SlR K H ρ (Mu ρ h) (startD N ds) (L2.start N vs) := by
  have hl := r.length
  refine ⟨by unfold startD L2.start; simp [hl], fun i d e => ?_⟩
  unfold startD at e
  by_cases hi : i < ds.length
  · rw [List.getElem?_append_left (by simpa using hi), List.getElem?_map] at e
    cases e2 : ds[i]? with
    | none => rw [e2] at e; cases e
    | some d2 =>
      rw [e2] at e
      have : d2 = d := by simpa using e
      subst this
      obtain ⟨v, h1, h2⟩ := r.get e2
      refine ⟨v, ?_, h2⟩
      unfold L2.start
      rw [List.getElem?_append_left (by rw [List.length_map, ← hl]; exact hi), List.getElem?_map, h1]
      rfl
  · rw [List.getElem?_append_right (by simpa using hi), List.getElem?_replicate] at e
    split at e <;> cases e
/-- what a body is shown to do -/
structure BodyOk (Γ : Gam) (N : List Str) (body : Blk) (den : List D → Hm → Res D) : Prop where
  ok : ∀ ds h r h', den ds h = .ok r h' → wpB Γ body (startD N ds) h { nx := fun _ h2 => Fz h .non h2 r h', rt := fun d h2 => Fz h d h2 r h' }
  er : ∀ ds h x h', den ds h = .err x h' → wpB Γ body (startD N ds) h { nx := fun _ _ => False, rt := fun _ _ => False, xe := fun x2 _ h2 => x2.cls = x.cls ∧ Fz h x2.val h2 x.val h' }
theorem good_of {qual : Str} {st : Stmt} {f : Addr} {ps : List Str} {c : Ctx} {Γ : Gam} {cdv : Value} {A : Around} {outer : List Env} {s : Shared} {H : Hp} {X : XK} (S : FnScope c.N ps (defScope st)) (hc : c.names = (defScope st).names) (ho : c.own = none)
    (E : EnvOk P w K mg base k c Γ) (hr : Room k (A.deeper (envOfC qual (defScope st) s.heap.objs.size f cdv))) (gd : c.rp = true → A.guards = some []) : GoodS c Γ (cxOf (L2.CX P w) P w K mg base c.N qual (defScope st) f cdv A outer s H X) (fun cls d _ H' => X cls d H') := by
  refine ⟨⟨rfl, S.nd, hc.symm, S.kind, rfl, fun x => ?_, hr.units, gd, E.bi, fun i den e => ?_, fun i n ks perm den hm e => ?_, E.gl⟩, passes_of rfl, takes_of rfl rfl rfl rfl, rfl, rfl, E.ex, E.em⟩
  · rw [ho]
    rfl
  · obtain ⟨x, h1, f2, fd2, ps2, F2, h2, h3, h4, h5⟩ := E.fn i den e
    exact ⟨x, h1, ⟨f2, fd2, ps2, k, F2, hr, h2, h3, h4, h5⟩⟩
  · obtain ⟨x, h1, f2, fd2, ps2, F2, h2, h3, h4, h5⟩ := E.kw i n ks perm den hm e
    exact ⟨x, h1, ⟨f2, fd2, ps2, k, F2, hr, h2, h3, h4, h5⟩⟩
theorem rx_end {h0 h2 h' : Hm} {ρ0 ρ2 : List Addr} {H0 H2 : Hp} {x x2 : Exn} {cls : Value} {dd : Option Addr} (z : Fz h0 x2.val h2 x.val h') (hc : x2.cls = x.cls) (hR : HR K h0 ρ0 H0) (hr : HR K h2 ρ2 H2) (k : Kp h0 ρ0 H0 h2 ρ2 H2) (rx : RX K h2 ρ2 H2 x2 cls dd) :
    ∃ ρ', HR K h' ρ' H2 ∧ Kp h0 ρ0 H0 h' ρ' H2 ∧ RX K h' ρ' H2 x cls dd := by
  obtain ⟨c2, v2⟩ := x2
  obtain ⟨c, v⟩ := x
  dsimp only at z hc
  subst hc
  obtain ⟨r1, r2⟩ := rx
  dsimp only at r2
  cases e : fldOf c2 with
  | none =>
    rw [e] at r2
    obtain ⟨e1, e2⟩ := r2
    subst e2
    obtain ⟨ρ', a1, a2, a3⟩ := fz_ok z hR hr k .non
    refine ⟨ρ', a1, a2, r1, ?_⟩
    dsimp only
    rw [e]
    refine ⟨e1, ?_⟩
    cases a3
    rfl
  | some f =>
    rw [e] at r2
    obtain ⟨a, v2, e1, e2, e3⟩ := r2
    obtain ⟨ρ', a1, a2, a3⟩ := fz_ok z hR hr k e3
    refine ⟨ρ', a1, a2, r1, ?_⟩
    dsimp only
    rw [e]
    exact ⟨a, v2, e1, e2, a3⟩
/-- from a body that is shown to do what den tells: what is wanted of the call -/
theorem body_run {c : Ctx} {Γ : Gam} {body : Blk} {n : Nat} {vs : List V} {H : Hp} {Q : VK} {E : XK} (hsp : spD K n den vs H Q E) (hb : BodyOk Γ c.N body den) : tS K (fun cls d _ H' => E cls d H') (wpB Γ body) { nx := fun _ H' => Q .non H', rt := Q } (L2.start c.N vs) H := by
  obtain ⟨hl, h, ρ, ds, hR, rs, q⟩ := hsp
  cases e : den ds h with
  | stuck => rw [e] at q; exact False.elim q
  | err x h' =>
    rw [e] at q
    refine ⟨startD c.N ds, h, ρ, _, ⟨hR, start_rel rs⟩, hb.er ds h x h' e, ⟨fun _ _ _ _ _ _ _ z => False.elim z, fun _ _ _ _ _ _ _ z => False.elim z, fun _ _ _ _ _ _ _ z => False.elim z, fun _ _ _ _ _ _ _ _ z => False.elim z, fun x2 σ2 h2 σV2 H2 ρ2 cls dd s2 k2 rx z => ?_⟩⟩
    obtain ⟨ρ', a1, a2, a3⟩ := rx_end z.2 z.1 hR s2.hp k2 rx
    exact q _ _ _ _ a1 a2 a3
  | ok r h' =>
    rw [e] at q
    refine ⟨startD c.N ds, h, ρ, _, ⟨hR, start_rel rs⟩, hb.ok ds h r h' e, ⟨fun σ' h2 σV' H2 ρ2 s2 k2 z => ?_, fun _ _ _ _ _ _ _ z => False.elim z, fun _ _ _ _ _ _ _ z => False.elim z, fun d h2 v H2 ρ2 hr2 k2 rv z => ?_, fun _ _ _ _ _ _ _ _ _ _ _ z => False.elim z⟩⟩
    · obtain ⟨ρ', a1, a2, a3⟩ := fz_ok z hR s2.hp k2 .non
      exact q _ _ _ a1 a2 a3
    · obtain ⟨ρ', a1, a2, a3⟩ := fz_ok z hR hr2 k2 rv
      exact q _ _ _ a1 a2 a3
theorem def_ok {qual : Str} {st : Stmt} {f : Addr} {fd : FuncData} {ps : List Str} {c : Ctx} {Γ : Gam} {body : Blk} {fdn : Str} (F : Fun K fdn qual st f fd) (S : FnScope c.N ps (defScope st)) (hc : c.names = (defScope st).names) (ho : c.own = none ∧ c.rp = false)
    (E : EnvOk P w K mg base k c Γ) (chk : chkB body c (defBody st) = true) (hn : LenOk den ps.length) (hb : BodyOk Γ c.N body den) :
    FnOk P w K mg base (L2.CX P w) (k + 1) f fd ps (spD K ps.length den) := by
  refine F.okX S (fun vs H Q E h => h.1) (fun cdv A outer s H vs Q X hr hsp => ?_)
  exact ⟨_, sndB Γ body c _ _ _ (good_of S hc ho.1 E hr fun z => by rw [ho.2] at z; cases z) chk, body_run hsp hb⟩
/-- a def is there under its name -/
theorem fnAt_mk {qual fdn : Str} {st : Stmt} {f : Addr} {fd : FuncData} {ps : List Str} {c : Ctx} {Γ : Gam} {body : Blk} (F : Fun K fdn qual st f fd) (S : FnScope c.N ps (defScope st)) (hc : c.names = (defScope st).names) (ho : c.own = none ∧ c.rp = false)
    (E : EnvOk P w K mg base k c Γ) (chk : chkB body c (defBody st) = true) (hm : mg x = some (.ref f)) (bn : Binds K fd ps []) (hn : LenOk den ps.length) (hb : BodyOk Γ c.N body den) (hns : PySem.W.nsIn K mainGlobals x = some (some (.ref f))) : FnAt P w K mg base (k + 1) x den :=
  ⟨f, fd, ps, def_ok F S hc ho E chk hn hb, hm, F.kp, bn, hn, hns⟩
end
/-- the law: a list of ints goes in, True comes out -/
theorem law_sp {K : PySem.W.Frag} {den : List D → Hm → Res D} {H : Hp} {a : Addr} {ns : List Int} (hS : SqL K H a (ns.map V.int)) (hd : ∃ h', den [.lst (ns.map D.int)] [] = .ok (.bl true) h') : spD K 1 den [.ref a] H (fun v _ => v = .bl true) fun _ _ _ => False := by
  obtain ⟨h', hd⟩ := hd
  have nM : ∀ a, ¬ Mu ([] : List Addr) ([] : Hm) a := fun a ⟨n, o, q, _⟩ => by simp at q
  have rs : Rels K [] [] H (ns.map D.int) (ns.map V.int) := by
    clear hS hd
    induction ns with
    | nil => exact .nil
    | cons n ns ih => exact .cons (.int n) ih
  have l : LieL K H (Mu [] []) a (ns.map V.int) := hS.imp (fun z => ⟨z, nM _⟩) id
  refine ⟨rfl, [], [], [.lst (ns.map D.int)], ⟨rfl, List.nodup_nil, fun n o a q => by simp at q⟩, .cons (.lst l rs) .nil, ?_⟩
  rw [hd]
  intro v H' ρ' _ _ r
  cases r
  rfl

/-! Mini 17: words for reading a body. -/

theorem guard_wp {α : Type} {b : Bool} {r : Res α} {Q : α → Hm → Prop} (hb : b = true) (hr : r.wp Q) : (Res.guard b r).wp Q := by
  subst hb
  exact hr
theorem guard_ok {α : Type} {b : Bool} {r : Res α} {a : α} {h : Hm} (e : Res.guard b r = .ok a h) : b = true ∧ r = .ok a h := by
  cases b with
  | true => exact ⟨rfl, e⟩
  | false => cases e
@[simp] theorem Res.wp_stuck {α : Type} (Q : α → Hm → Prop) : (Res.stuck : Res α).wp Q = False := rfl
theorem ok_inj {α : Type} {a b : α} {h h' : Hm} (e : Res.ok a h = .ok b h') : a = b ∧ h = h' := by
  cases e
  exact ⟨rfl, rfl⟩
theorem wp_of_eq {α : Type} {r : Res α} {a : α} {h : Hm} {Q : α → Hm → Prop} (e : r = .ok a h) (q : Q a h) : r.wp Q := by
  rw [e]
  exact q
theorem ty_int_non  : tyD .int .non = false := rfl
theorem ty_int_bl (b : Bool) : tyD .int (.bl b) = true := rfl
theorem ty_int_int (i : Int) : tyD .int (.int i) = true := rfl
theorem ty_int_str (x : Str) : tyD .int (.str x) = false := rfl
theorem ty_int_tup (xs : List D) : tyD .int (.tup xs) = false := rfl
theorem ty_int_lst (xs : List D) : tyD .int (.lst xs) = false := rfl
theorem ty_int_ref (n : Nat) : tyD .int (.ref n) = false := rfl
theorem ty_int_wtup (xs : List D) : tyD .int (.wtup xs) = false := rfl
theorem ty_bool_non  : tyD .bool .non = false := rfl
theorem ty_bool_bl (b : Bool) : tyD .bool (.bl b) = true := rfl
theorem ty_bool_int (i : Int) : tyD .bool (.int i) = false := rfl
theorem ty_bool_str (x : Str) : tyD .bool (.str x) = false := rfl
theorem ty_bool_tup (xs : List D) : tyD .bool (.tup xs) = false := rfl
theorem ty_bool_lst (xs : List D) : tyD .bool (.lst xs) = false := rfl
theorem ty_bool_ref (n : Nat) : tyD .bool (.ref n) = false := rfl
theorem ty_bool_wtup (xs : List D) : tyD .bool (.wtup xs) = false := rfl
theorem ty_str_non  : tyD .str .non = false := rfl
theorem ty_str_bl (b : Bool) : tyD .str (.bl b) = false := rfl
theorem ty_str_int (i : Int) : tyD .str (.int i) = false := rfl
theorem ty_str_str (x : Str) : tyD .str (.str x) = true := rfl
theorem ty_str_tup (xs : List D) : tyD .str (.tup xs) = false := rfl
theorem ty_str_lst (xs : List D) : tyD .str (.lst xs) = false := rfl
theorem ty_str_ref (n : Nat) : tyD .str (.ref n) = false := rfl
theorem ty_str_wtup (xs : List D) : tyD .str (.wtup xs) = false := rfl
theorem ty_tuple_non  : tyD .tuple .non = false := rfl
theorem ty_tuple_bl (b : Bool) : tyD .tuple (.bl b) = false := rfl
theorem ty_tuple_int (i : Int) : tyD .tuple (.int i) = false := rfl
theorem ty_tuple_str (x : Str) : tyD .tuple (.str x) = false := rfl
theorem ty_tuple_tup (xs : List D) : tyD .tuple (.tup xs) = true := rfl
theorem ty_tuple_lst (xs : List D) : tyD .tuple (.lst xs) = false := rfl
theorem ty_tuple_ref (n : Nat) : tyD .tuple (.ref n) = false := rfl
theorem ty_tuple_wtup (xs : List D) : tyD .tuple (.wtup xs) = true := rfl
theorem ty_list_non  : tyD .list .non = false := rfl
theorem ty_list_bl (b : Bool) : tyD .list (.bl b) = false := rfl
theorem ty_list_int (i : Int) : tyD .list (.int i) = false := rfl
theorem ty_list_str (x : Str) : tyD .list (.str x) = false := rfl
theorem ty_list_tup (xs : List D) : tyD .list (.tup xs) = false := rfl
theorem ty_list_lst (xs : List D) : tyD .list (.lst xs) = true := rfl
theorem ty_list_ref (n : Nat) : tyD .list (.ref n) = true := rfl
theorem ty_list_wtup (xs : List D) : tyD .list (.wtup xs) = false := rfl
theorem ty_int_dict (ks : List Str) (xs : List D) : tyD .int (.dict ks xs) = false := rfl
theorem open_non (h : Hm)  : openD h .non = true := rfl
theorem isNon_non  : isNonD .non = true := rfl
theorem open_bl (h : Hm) (b : Bool) : openD h (.bl b) = true := rfl
theorem isNon_bl (b : Bool) : isNonD (.bl b) = false := rfl
theorem open_int (h : Hm) (i : Int) : openD h (.int i) = true := rfl
theorem isNon_int (i : Int) : isNonD (.int i) = false := rfl
theorem open_str (h : Hm) (x : Str) : openD h (.str x) = true := rfl
theorem isNon_str (x : Str) : isNonD (.str x) = false := rfl
theorem open_tup (h : Hm) (xs : List D) : openD h (.tup xs) = true := rfl
theorem isNon_tup (xs : List D) : isNonD (.tup xs) = false := rfl
theorem open_lst (h : Hm) (xs : List D) : openD h (.lst xs) = true := rfl
theorem isNon_lst (xs : List D) : isNonD (.lst xs) = false := rfl
theorem open_wtup (h : Hm) (xs : List D) : openD h (.wtup xs) = true := rfl
theorem isNon_wtup (xs : List D) : isNonD (.wtup xs) = false := rfl
theorem isNon_ref (n : Nat) : isNonD (.ref n) = false := rfl
theorem open_ref (h : Hm) (n : Nat) : openD h (.ref n) = (listOf? h n).isSome := rfl
theorem op_addI (i j : Int) (h : Hm) : opD .add (.int i) (.int j) h = .ok (.int (i + j)) h := rfl
theorem op_addS (x y : Str) (h : Hm) : opD .add (.str x) (.str y) h = .guard (decide (x.length + y.length ≤ LIM)) (.ok (.str (x ++ y)) h) := (Eq.refl _).trans (Eq.refl _)
theorem op_addL (xs ys : List D) (h : Hm) : opD .add (.lst xs) (.lst ys) h = .guard (decide (xs.length + ys.length ≤ LIM)) (.ok (.lst (xs ++ ys)) h) := (Eq.refl _).trans (Eq.refl _)
theorem op_addT (xs ys : List D) (h : Hm) : opD .add (.tup xs) (.tup ys) h = .guard (decide (xs.length + ys.length ≤ LIM)) (.ok (.tup (xs ++ ys)) h) := (Eq.refl _).trans (Eq.refl _)
theorem op_addML (xs ys : List D) (h : Hm) : opD .addM (.lst xs) (.lst ys) h = .guard (decide (xs.length + ys.length ≤ LIM)) (.ok (.ref h.length) (h ++ [.lst (xs ++ ys)])) := (Eq.refl _).trans (Eq.refl _)
theorem op_subI (i j : Int) (h : Hm) : opD .sub (.int i) (.int j) h = .ok (.int (i - j)) h := rfl
theorem op_mulI (i j : Int) (h : Hm) : opD .mul (.int i) (.int j) h = .guard (mulOk i j) (.ok (.int (i * j)) h) := (Eq.refl _).trans (Eq.refl _)
theorem op_fdivI (i j : Int) (h : Hm) : opD .fdiv (.int i) (.int j) h = .guard (divOk j) (.ok (.int (i.fdiv j)) h) := (Eq.refl _).trans (Eq.refl _)
theorem op_modI (i j : Int) (h : Hm) : opD .mod (.int i) (.int j) h = .guard (decide (0 < j)) (.ok (.int (i % j)) h) := (Eq.refl _).trans (Eq.refl _)
theorem op_powI (i j : Int) (h : Hm) : opD .pow (.int i) (.int j) h = .guard (powOk i j) (.ok (.int (i ^ j.toNat)) h) := (Eq.refl _).trans (Eq.refl _)
theorem cm_lt (i j : Int) (h : Hm) : cmpD .lt (.int i) (.int j) h = .ok (decide (i < j)) h := rfl
theorem cm_le (i j : Int) (h : Hm) : cmpD .le (.int i) (.int j) h = .ok (decide (i ≤ j)) h := rfl
theorem cm_gt (i j : Int) (h : Hm) : cmpD .gt (.int i) (.int j) h = .ok (decide (j < i)) h := rfl
theorem cm_ge (i j : Int) (h : Hm) : cmpD .ge (.int i) (.int j) h = .ok (decide (j ≤ i)) h := rfl
theorem cm_eq (d e : D) (h : Hm) : cmpD .eq d e h = eqD d e h := by cases d <;> cases e <;> rfl
theorem cm_ne (d e : D) (h : Hm) : cmpD .ne d e h = (eqD d e h).bind fun b h1 => .ok (!b) h1 := by cases d <;> cases e <;> rfl
theorem bi_len (d : D) (h : Hm) (ns : ∀ x, d ≠ .str x) (nw : ∀ x, d ≠ .wtup x) : biD .len [d] h = match itemsOf h d with | some xs => .ok (.int xs.length) h | none => .stuck := by cases d <;> first | rfl | exact absurd rfl (ns _) | exact absurd rfl (nw _)
theorem bi_lenT (xs : List D) (h : Hm) : biD .len [.tup xs] h = .ok (.int xs.length) h := rfl
theorem bi_lenL (xs : List D) (h : Hm) : biD .len [.lst xs] h = .ok (.int xs.length) h := rfl
theorem bi_lenS (x : Str) (h : Hm) : biD .len [.str x] h = .guard (decide (x.length ≤ LIM)) (.ok (.int x.length) h) := (Eq.refl _).trans (Eq.refl _)
theorem bi_abs (i : Int) (h : Hm) : biD .abs [.int i] h = .ok (.int (if i < 0 then -i else i)) h := rfl
theorem bi_intI (i : Int) (h : Hm) : biD .int [.int i] h = .ok (.int i) h := rfl
theorem bi_intB (b : Bool) (h : Hm) : biD .int [.bl b] h = .ok (.int (if b then 1 else 0)) h := rfl
theorem bi_tupT (xs : List D) (h : Hm) : biD .tuple [.tup xs] h = .ok (.tup xs) h := rfl
theorem bi_tupL (xs : List D) (h : Hm) : biD .tuple [.lst xs] h = .ok (.tup xs) h := rfl
theorem bi_lstT (xs : List D) (h : Hm) : biD .list [.tup xs] h = .ok (.lst xs) h := rfl
theorem bi_lstL (xs : List D) (h : Hm) : biD .list [.lst xs] h = .ok (.lst xs) h := rfl
theorem bi_allL (xs : List D) (h : Hm) : biD .all [.lst xs] h = match boolsOf xs with | some bs => .ok (.bl (bs.all id)) h | none => .stuck := rfl
theorem bi_anyL (xs : List D) (h : Hm) : biD .any [.lst xs] h = match boolsOf xs with | some bs => .ok (.bl (bs.any id)) h | none => .stuck := rfl
theorem bi_sortedL (xs : List D) (h : Hm) : biD .sorted [.lst xs] h = match pairsOf xs with | some ps => .ok (.lst (unpairs (sortP ps))) h | none => dataR xs h := rfl
theorem ix_tup (xs : List D) (i : Int) (h : Hm) : ixD (.tup xs) (.int i) h = match atI xs i with | some y => .ok y h | none => .stuck := rfl
theorem ix_lst (xs : List D) (i : Int) (h : Hm) : ixD (.lst xs) (.int i) h = match atI xs i with | some y => .ok y h | none => .stuck := rfl
theorem ix_ref (n : Nat) (i : Int) (h : Hm) : ixD (.ref n) (.int i) h = match listOf? h n with | some xs => (match atI xs i with | some y => .ok y h | none => .stuck) | none => .stuck := rfl
theorem tr_bl (b : Bool) (h : Hm) : trD (.bl b) h = .ok b h := rfl
theorem it_tup (xs : List D) (h : Hm) : itD (.tup xs) h = .ok xs h := rfl
theorem it_lst (xs : List D) (h : Hm) : itD (.lst xs) h = .ok xs h := rfl
theorem eq_int (i j : Int) (h : Hm) : eqD (.int i) (.int j) h = .ok (decide (i = j)) h := by simp [eqD, toPyH, toPy, SeqAt.shaped, PyData.canLay0, PyData.depth, PyData.eqv]; rfl
theorem eq_bl (i j : Bool) (h : Hm) : eqD (.bl i) (.bl j) h = .ok (decide (i = j)) h := by simp [eqD, toPyH, toPy, SeqAt.shaped, PyData.canLay0, PyData.depth, PyData.eqv]; cases i <;> cases j <;> rfl
theorem lst_lst (h : Hm) (xs : List D) : lstOf h (.lst xs) = some xs := rfl
theorem lst_ref (h : Hm) (n : Nat) : lstOf h (.ref n) = listOf? h n := rfl
noncomputable def cd (p : Prop) : Bool := @decide p (Classical.propDecidable p)
theorem cd_true {p : Prop} (h : p) : cd p = true := @decide_eq_true p (Classical.propDecidable p) h
theorem cd_false {p : Prop} (h : ¬ p) : cd p = false := @decide_eq_false p (Classical.propDecidable p) h
theorem of_cd {p : Prop} (h : cd p = true) : p := @of_decide_eq_true p (Classical.propDecidable p) h
theorem cd_guard {α : Type} {p : Prop} {r : Res α} (h : p) : Res.guard (cd p) r = r := by rw [cd_true h]; rfl
/-! ### weaker wishes; loops by an invariant -/
structure Po.le (P P' : Po) : Prop where
  nx : ∀ σ h, P.nx σ h → P'.nx σ h
  rt : ∀ d h, P.rt d h → P'.rt d h
  bk : ∀ σ h, P.bk σ h → P'.bk σ h
  ct : ∀ σ h, P.ct σ h → P'.ct σ h
  xe : ∀ x σ h, P.xe x σ h → P'.xe x σ h
theorem Po.le.refl (P : Po) : P.le P := ⟨fun _ _ z => z, fun _ _ z => z, fun _ _ z => z, fun _ _ z => z, fun _ _ _ z => z⟩
theorem Po.le.with {P P' : Po} (l : P.le P') {f g : Sg → Hm → Prop} (w : ∀ σ h, f σ h → g σ h) : Po.le { P with nx := f } { P' with nx := g } := ⟨w, l.rt, l.bk, l.ct, l.xe⟩
theorem wpFor_mono {b : D → Sg → Hm → Po → Prop} (bm : ∀ x σ h (P P' : Po), P.le P' → b x σ h P → b x σ h P') : ∀ (xs : List D) (σ : Sg) (h : Hm) (P P' : Po), P.le P' → wpFor b xs σ h P → wpFor b xs σ h P'
  | [], _, _, _, _, l, q => l.nx _ _ q
  | x :: xs, σ, h, P, P', l, q => by
    refine bm x σ h _ _ ?_ q
    exact ⟨fun σ h z => wpFor_mono bm xs σ h P P' l z, l.rt, l.nx, fun σ h z => wpFor_mono bm xs σ h P P' l z, l.xe⟩
theorem wpWhile_mono {c : Sg → Hm → Res Bool} {b : Sg → Hm → Po → Prop} (bm : ∀ σ h (P P' : Po), P.le P' → b σ h P → b σ h P') : ∀ (n : Nat) (σ : Sg) (h : Hm) (P P' : Po), P.le P' → wpWhile c b n σ h P → wpWhile c b n σ h P'
  | 0, _, _, _, _, _, q => q
  | n + 1, σ, h, P, P', l, q => Res.wp_mono q fun t h1 q => by
    cases t with
    | true =>
      refine bm σ h1 _ _ ?_ q
      exact ⟨fun σ h z => wpWhile_mono bm n σ h P P' l z, l.rt, l.nx, fun σ h z => wpWhile_mono bm n σ h P P' l z, l.xe⟩
    | false => exact l.nx _ _ q
theorem wpWhile_more {c : Sg → Hm → Res Bool} {b : Sg → Hm → Po → Prop} (bm : ∀ σ h (P P' : Po), P.le P' → b σ h P → b σ h P') : ∀ (n m : Nat) (σ : Sg) (h : Hm) (P : Po), n ≤ m → wpWhile c b n σ h P → wpWhile c b m σ h P
  | 0, _, _, _, _, _, q => False.elim q
  | n + 1, 0, _, _, _, l, _ => absurd l (Nat.not_succ_le_zero _)
  | n + 1, m + 1, σ, h, P, l, q => Res.wp_mono q fun t h1 q => by
    cases t with
    | true =>
      refine bm σ h1 _ _ ?_ q
      exact ⟨fun σ h z => wpWhile_more bm n m σ h P (by omega) z, fun _ _ z => z, fun _ _ z => z, fun σ h z => wpWhile_more bm n m σ h P (by omega) z, fun _ _ _ z => z⟩
    | false => exact q
theorem wpx_mono {α : Type} {r : Res α} {Q Q' : α → Hm → Prop} {E E' : Exn → Hm → Prop} (w : r.wpx Q E) (m : ∀ a h, Q a h → Q' a h) (n : ∀ x h, E x h → E' x h) : r.wpx Q' E' := by
  cases r with
  | ok a h => exact m a h w
  | stuck => exact w
  | err x h => exact n x h w
theorem evX_mono (Γ : Gam) : ∀ (e : Ex) {σ : Sg} {h : Hm} {Q Q' : D → Hm → Prop} {E E' : Exn → Hm → Prop}, evX Γ e σ h Q E → (∀ a h, Q a h → Q' a h) → (∀ x h, E x h → E' x h) → evX Γ e σ h Q' E'
  | .call f es, σ, h, Q, Q', E, E', w, m, n => by
    refine Res.wp_mono w fun ds h1 z => ?_
    cases k : Γ.fn f with
    | none => rw [k] at z; exact z
    | some den => rw [k] at z; exact wpx_mono z m n
  | .callk f es kes perm, σ, h, Q, Q', E, E', w, m, n => by
    refine Res.wp_mono w fun ds h1 z => Res.wp_mono z fun ks h2 z => ?_
    cases k : Γ.fn f with
    | none => rw [k] at z; exact z
    | some den => rw [k] at z; exact wpx_mono z m n
  | .isN a, σ, h, Q, Q', E, E', w, m, n => evX_mono Γ a (w : evX Γ a σ h _ _) (fun x h1 z => m _ _ z) n
  | .v _, _, _, _, _, _, _, w, _, _ => w
  | .non, _, _, _, _, _, _, w, _, _ => w
  | .bl _, _, _, _, _, _, _, w, _, _ => w
  | .int _, _, _, _, _, _, _, w, _, _ => w
  | .str _, _, _, _, _, _, _, w, _, _ => w
  | .glob _, _, _, _, _, _, _, w, _, _ => w
  | .op2 _ _ _, _, _, _, _, _, _, w, _, _ => w
  | .neg _, _, _, _, _, _, _, w, _, _ => w
  | .cmp _ _ _, _, _, _, _, _, _, w, _, _ => w
  | .chain _ _ _ _ _, _, _, _, _, _, _, w, _, _ => w
  | .notN _, _, _, _, _, _, _, w, _, _ => w
  | .isB _ _ _, _, _, _, _, _, _, w, _, _ => w
  | .band _ _, _, _, _, _, _, _, w, _, _ => w
  | .bor _ _, _, _, _, _, _, _, w, _, _ => w
  | .bnot _, _, _, _, _, _, _, w, _, _ => w
  | .ifx _ _ _, _, _, _, _, _, _, w, _, _ => w
  | .tup _, _, _, _, _, _, _, w, _, _ => w
  | .lst _, _, _, _, _, _, _, w, _, _ => w
  | .lstM _, _, _, _, _, _, _, w, _, _ => w
  | .ix _ _, _, _, _, _, _, _, w, _, _ => w
  | .slice _ _ _, _, _, _, _, _, _, w, _, _ => w
  | .rev _, _, _, _, _, _, _, w, _, _ => w
  | .isi _ _, _, _, _, _, _, _, w, _, _ => w
  | .isiT _ _, _, _, _, _, _, _, w, _, _ => w
  | .bi _ _, _, _, _, _, _, _, w, _, _ => w
  | .meth _ _ _, _, _, _, _, _, _, w, _, _ => w
  | .lenset _, _, _, _, _, _, _, w, _, _ => w
  | .sortset _, _, _, _, _, _, _, w, _, _ => w
  | .rngM _, _, _, _, _, _, _, w, _, _ => w
  | .rngs _ _ _, _, _, _, _, _, _, w, _, _ => w
  | .dct _, _, _, _, _, _, _, w, _, _ => w
  | .dget _ _ _, _, _, _, _, _, _, w, _, _ => w
  | .dix _ _, _, _, _, _, _, _, w, _, _ => w
  | .dctM, _, _, _, _, _, _, w, _, _ => w
  | .fnv _ _, _, _, _, _, _, _, w, _, _ => w
  | .callv _ _ _, _, _, _, _, _, _, w, _, _ => w
  | .comp _ _ _ _ _ _, _, _, _, _, _, _, w, _, _ => w
theorem hds_mono {rs : List Str} {x : Exn} {σ : Sg} {h : Hm} {P P' : Po} (l : P.le P') : ∀ {hs : List Hd}, hdsP rs x σ h P hs → hdsP rs x σ h P' hs
  | [], w => l.xe _ _ _ w
  | .c y i d :: r, w => by
    refine ⟨w.1, ?_⟩
    have w2 := w.2
    cases k : subX x.cls y with
    | true => rw [k] at w2; exact l.nx _ _ w2
    | false => rw [k] at w2; exact hds_mono l w2
mutual
theorem wpS_mono (Γ : Gam) : ∀ (s : Stm) (σ : Sg) (h : Hm) (P P' : Po), P.le P' → wpS Γ s σ h P → wpS Γ s σ h P'
  | .set i e, σ, h, P, P', l, q => Res.wp_mono q fun d h1 z => l.nx _ _ z
  | .asg is e, σ, h, P, P', l, q => Res.wp_mono q fun d h1 z => by
    cases k : asgD (.tup is) d σ with
    | none => rw [k] at z; exact False.elim z
    | some σ' => rw [k] at z; exact l.nx _ _ z
  | .par i j a b, σ, h, P, P', l, q => Res.wp_mono q fun x h1 z => Res.wp_mono z fun y h2 z => l.nx _ _ z
  | .par3 i j m a b d, σ, h, P, P', l, q => Res.wp_mono q fun x h1 z => Res.wp_mono z fun y h2 z => Res.wp_mono z fun w h3 z => l.nx _ _ z
  | .setix o i e, σ, h, P, P', l, q => Res.wp_mono q fun d h1 z => Res.wp_mono z fun x h2 z => Res.wp_mono z fun y h3 z => by
    split at z
    · split at z
      · split at z
        · exact l.nx _ _ z
        · exact False.elim z
      · exact False.elim z
    · exact False.elim z
  | .dput o i e, σ, h, P, P', l, q => Res.wp_mono q fun d h1 z => Res.wp_mono z fun x h2 z => Res.wp_mono z fun y h3 z => by
    split at z
    · split at z
      · exact ⟨z.1, l.nx _ _ z.2⟩
      · exact False.elim z
    · exact False.elim z
  | .ex e, σ, h, P, P', l, q => Res.wp_mono q fun _ h1 z => l.nx _ _ z
  | .ret e, σ, h, P, P', l, q => Res.wp_mono q fun d h1 z => l.rt _ _ z
  | .ife c a b, σ, h, P, P', l, q => Res.wp_mono q fun t h1 z => by
    cases t with
    | true => exact wpB_mono Γ a σ h1 P P' l z
    | false => exact wpB_mono Γ b σ h1 P P' l z
  | .for_ tg it b, σ, h, P, P', l, q => Res.wp_mono q fun xs h1 z => wpFor_mono (fun x σ h P P' l q => by
    cases k : asgD tg x σ with
    | none => rw [k] at q; exact False.elim q
    | some σ' => rw [k] at q; exact wpB_mono Γ b σ' h P P' l q) xs σ h1 P P' l z
  | .while_ c b, σ, h, P, P', l, ⟨n, q⟩ => ⟨n, wpWhile_mono (fun σ h P P' l q => wpB_mono Γ b σ h P P' l q) n σ h P P' l q⟩
  | .brk, σ, h, P, P', l, q => l.bk _ _ q
  | .cont, σ, h, P, P', l, q => l.ct _ _ q
  | .pass, σ, h, P, P', l, q => l.nx _ _ q
  | .freeze i, σ, h, P, P', l, q => by
    have q : (match σ[i]? with
      | some (some (.ref n)) => match listOf? h n with
        | some xs => P.nx (σ.set i (some (.lst xs))) (h.set n .gone)
        | none => False
      | _ => False) := q
    show (match σ[i]? with
      | some (some (.ref n)) => match listOf? h n with
        | some xs => P'.nx (σ.set i (some (.lst xs))) (h.set n .gone)
        | none => False
      | _ => False)
    split at q
    · split at q
      · exact l.nx _ _ q
      · exact False.elim q
    · exact False.elim q
  | .never, σ, h, P, P', l, q => False.elim q
  | .setX i e, σ, h, P, P', l, q => evX_mono Γ e q (fun _ _ z => l.nx _ _ z) fun _ _ z => l.xe _ _ _ z
  | .exX e, σ, h, P, P', l, q => evX_mono Γ e q (fun _ _ z => l.nx _ _ z) fun _ _ z => l.xe _ _ _ z
  | .retX e, σ, h, P, P', l, q => evX_mono Γ e q (fun _ _ z => l.rt _ _ z) fun _ _ z => l.xe _ _ _ z
  | .raise x, σ, h, P, P', l, q => l.xe _ _ _ q
  | .augI i e, σ, h, P, P', l, q => Res.wp_mono q fun d h1 z => by
    split at z
    · exact l.nx _ _ z
    · exact False.elim z
  | .aug i e, σ, h, P, P', l, q => Res.wp_mono q fun d h1 z => by
    split at z
    · split at z
      · exact ⟨z.1, l.nx _ _ z.2⟩
      · exact False.elim z
    · exact False.elim z
  | .try_ rs b hs, σ, h, P, P', l, q => wpB_mono Γ b σ h { P with xe := fun x σ' h' => hdsP rs x σ' h' P hs } { P' with xe := fun x σ' h' => hdsP rs x σ' h' P' hs } ⟨l.nx, l.rt, l.bk, l.ct, fun x σ' h' z => hds_mono l z⟩ q
theorem wpB_mono (Γ : Gam) : ∀ (b : Blk) (σ : Sg) (h : Hm) (P P' : Po), P.le P' → wpB Γ b σ h P → wpB Γ b σ h P'
  | .nil, σ, h, P, P', l, q => l.nx _ _ q
  | .cons s b, σ, h, P, P', l, q => by
    refine wpS_mono Γ s σ h _ _ ?_ q
    exact ⟨fun σ' h' z => wpB_mono Γ b σ' h' P P' l z, l.rt, l.bk, l.ct, l.xe⟩
end
/-- while c: b by an invariant with a number that falls -/
theorem while_inv {Γ : Gam} {c : Ex} {b : Blk} {P : Po} (I : Nat → Sg → Hm → Prop) {m : Nat} {σ : Sg} {h : Hm} (h0 : I m σ h)
    (st : ∀ m σ h, I m σ h → (evT Γ c σ h).wp fun t h1 => match t with
      | true => wpB Γ b σ h1 { P with nx := fun σ' h' => ∃ m', m' < m ∧ I m' σ' h', ct := fun σ' h' => ∃ m', m' < m ∧ I m' σ' h', bk := P.nx }
      | false => P.nx σ h1) : wpS Γ (.while_ c b) σ h P := by
  refine ⟨m + 1, ?_⟩
  have key : ∀ n m σ h, m < n → I m σ h → wpWhile (evT Γ c) (wpB Γ b) n σ h P := by
    intro n
    induction n with
    | zero => intro m σ h l; exact absurd l (Nat.not_lt_zero _)
    | succ n ih =>
      intro m σ h l i
      refine Res.wp_mono (st m σ h i) fun t h1 z => ?_
      cases t with
      | true =>
        refine wpB_mono Γ b _ _ _ _ ?_ z
        exact ⟨fun σ h ⟨m', l', i'⟩ => ih m' σ h (by omega) i', fun _ _ z => z, fun _ _ z => z, fun σ h ⟨m', l', i'⟩ => ih m' σ h (by omega) i', fun _ _ _ z => z⟩
      | false => exact z
  exact key _ m σ h (Nat.lt_succ_self _) h0
/-- for tg in it: b by an invariant -/
theorem for_inv {Γ : Gam} {tg : Tg} {it : It} {b : Blk} {P : Po} (I : Nat → Sg → Hm → Prop) {σ : Sg} {h h1 : Hm} {xs : List D} (hi : evI Γ it σ h = .ok xs h1) (h0 : I 0 σ h1)
    (st : ∀ i x σ h, xs[i]? = some x → I i σ h → ∃ σ2, asgD tg x σ = some σ2 ∧ wpB Γ b σ2 h { P with nx := I (i + 1), ct := I (i + 1), bk := P.nx })
    (fin : ∀ σ h, I xs.length σ h → P.nx σ h) : wpS Γ (.for_ tg it b) σ h P := by
  refine wp_of_eq hi ?_
  have key : ∀ n i σ h, i + n = xs.length → I i σ h → wpFor (fun x σ1 h2 P1 => match asgD tg x σ1 with
    | some σ2 => wpB Γ b σ2 h2 P1
    | none => False) (xs.drop i) σ h P := by
    intro n
    induction n with
    | zero =>
      intro i σ h e z
      have e : i = xs.length := by omega
      subst e
      rw [List.drop_length]
      exact fin _ _ z
    | succ n ih =>
      intro i σ h e z
      have hl : i < xs.length := by omega
      rw [List.drop_eq_getElem_cons hl]
      obtain ⟨σ2, a1, a2⟩ := st i _ σ h (List.getElem?_eq_getElem hl) z
      unfold wpFor
      rw [a1]
      refine wpB_mono Γ b _ _ _ _ ?_ a2
      exact ⟨fun σ h z => ih (i + 1) σ h (by omega) z, fun _ _ z => z, fun _ _ z => z, fun σ h z => ih (i + 1) σ h (by omega) z, fun _ _ _ z => z⟩
  have := key xs.length 0 σ h1 (by omega) h0
  rwa [List.drop_zero] at this
/-! ### statement by statement -/
section
variable {Γ : Gam} {e c : Ex} {b x y : Blk} {σ : Sg} {h h1 h2 : Hm} {P : Po} {d d2 : D} {i j : Nat}
theorem B_nil (k : P.nx σ h) : wpB Γ .nil σ h P := k
theorem B_set (he : evE Γ e σ h = .ok d h1) (k : wpB Γ b (σ.set i (some d)) h1 P) : wpB Γ (.cons (.set i e) b) σ h P := wp_of_eq he k
theorem B_ex (he : evE Γ e σ h = .ok d h1) (k : wpB Γ b σ h1 P) : wpB Γ (.cons (.ex e) b) σ h P := wp_of_eq he k
theorem B_ret (he : evE Γ e σ h = .ok d h1) (k : P.rt d h1) : wpB Γ (.cons (.ret e) b) σ h P := wp_of_eq he k
theorem B_if {t : Bool} (he : evT Γ c σ h = .ok t h1) (k1 : t = true → wpB Γ x σ h1 { P with nx := fun σ' h' => wpB Γ b σ' h' P }) (k2 : t = false → wpB Γ y σ h1 { P with nx := fun σ' h' => wpB Γ b σ' h' P }) : wpB Γ (.cons (.ife c x y) b) σ h P := by
  refine wp_of_eq he ?_
  cases t with
  | true => exact k1 rfl
  | false => exact k2 rfl
theorem B_ifT (he : evT Γ c σ h = .ok true h1) (k : wpB Γ x σ h1 { P with nx := fun σ' h' => wpB Γ b σ' h' P }) : wpB Γ (.cons (.ife c x y) b) σ h P := wp_of_eq he k
theorem B_ifF (he : evT Γ c σ h = .ok false h1) (k : wpB Γ y σ h1 { P with nx := fun σ' h' => wpB Γ b σ' h' P }) : wpB Γ (.cons (.ife c x y) b) σ h P := wp_of_eq he k
/-- if c: (something that does not go on) -/
theorem B_ifN (he : evT Γ c σ h = .ok false h1) (k : wpB Γ b σ h1 P) : wpB Γ (.cons (.ife c x .nil) b) σ h P := wp_of_eq he k
theorem B_par {f g : Ex} (he : evE Γ f σ h = .ok d h1) (hg : evE Γ g σ h1 = .ok d2 h2) (k : wpB Γ b ((σ.set i (some d)).set j (some d2)) h2 P) : wpB Γ (.cons (.par i j f g) b) σ h P := wp_of_eq he (wp_of_eq hg k)
theorem B_asg {is : List Nat} {σ' : Sg} (he : evE Γ e σ h = .ok d h1) (ha : asgD (.tup is) d σ = some σ') (k : wpB Γ b σ' h1 P) : wpB Γ (.cons (.asg is e) b) σ h P := by
  refine wp_of_eq he ?_
  dsimp only
  rw [ha]
  exact k
theorem B_setix {o k : Ex} {n m : Nat} {z : Int} {xs : List D} {h3 : Hm} (he : evE Γ e σ h = .ok d h1) (ho : evE Γ o σ h1 = .ok (.ref n) h2) (hk : evE Γ k σ h2 = .ok (.int z) h3) (hl : listOf? h3 n = some xs) (hm : ixN xs.length z = some m)
    (q : wpB Γ b σ (h3.set n (.lst (xs.set m d))) P) : wpB Γ (.cons (.setix o k e) b) σ h P := by
  refine wp_of_eq he (wp_of_eq ho (wp_of_eq hk ?_))
  dsimp only
  rw [hl]
  dsimp only
  rw [hm]
  exact q
theorem B_freeze {n : Nat} {xs : List D} (hi : σ[i]? = some (some (.ref n))) (hl : listOf? h n = some xs) (q : wpB Γ b (σ.set i (some (.lst xs))) (h.set n .gone) P) : wpB Γ (.cons (.freeze i) b) σ h P := by
  show (match σ[i]? with
    | some (some (.ref n)) => match listOf? h n with
      | some xs => wpB Γ b (σ.set i (some (.lst xs))) (h.set n .gone) P
      | none => False
    | _ => False)
  rw [hi]
  dsimp only
  rw [hl]
  exact q
theorem B_for {tg : Tg} {it : It} {xs : List D} (I : Nat → Sg → Hm → Prop) (hi : evI Γ it σ h = .ok xs h1) (h0 : I 0 σ h1)
    (st : ∀ i x1 σ h, xs[i]? = some x1 → I i σ h → ∃ σ2, asgD tg x1 σ = some σ2 ∧ wpB Γ x σ2 h { nx := I (i + 1), ct := I (i + 1), bk := fun σ' h' => wpB Γ b σ' h' P, rt := P.rt, xe := P.xe })
    (fin : ∀ σ h, I xs.length σ h → wpB Γ b σ h P) : wpB Γ (.cons (.for_ tg it x) b) σ h P := for_inv (P := { P with nx := fun σ' h' => wpB Γ b σ' h' P }) I hi h0 st fin
theorem B_while (I : Nat → Sg → Hm → Prop) {m : Nat} (h0 : I m σ h)
    (st : ∀ m σ h, I m σ h → ∃ t h1, evT Γ c σ h = .ok t h1 ∧ (t = true → wpB Γ x σ h1 { nx := fun σ' h' => ∃ m', m' < m ∧ I m' σ' h', ct := fun σ' h' => ∃ m', m' < m ∧ I m' σ' h', bk := fun σ' h' => wpB Γ b σ' h' P, rt := P.rt, xe := P.xe }) ∧
      (t = false → wpB Γ b σ h1 P)) : wpB Γ (.cons (.while_ c x) b) σ h P := while_inv (P := { P with nx := fun σ' h' => wpB Γ b σ' h' P }) I h0 fun m σ h i => by
  obtain ⟨t, h1, e, k1, k2⟩ := st m σ h i
  refine wp_of_eq e ?_
  cases t with
  | true => exact k1 rfl
  | false => exact k2 rfl
theorem E_call {f : Nat} {es : Exs} {ds : List D} {den : List D → Hm → Res D} {r : D} (hg : Γ.fn f = some den) (he : evEs Γ es σ h = .ok ds h1) (hd : den ds h1 = .ok r h2) : evE Γ (.call f es) σ h = .ok r h2 := by
  show (evEs Γ es σ h).bind _ = _
  rw [he, Res.bind_ok, hg]
  exact hd
theorem E_bandT {f g : Ex} (he : evE Γ f σ h = .ok (.bl true) h1) (hg : evE Γ g σ h1 = .ok d h2) : evE Γ (.band f g) σ h = .ok d h2 := by
  show (evE Γ f σ h).bind _ = _
  rw [he]
  exact hg
theorem E_bandF {f g : Ex} (he : evE Γ f σ h = .ok (.bl false) h1) : evE Γ (.band f g) σ h = .ok (.bl false) h1 := by
  show (evE Γ f σ h).bind _ = _
  rw [he]
  rfl
theorem E_bi1 {f : Ex} {bb : Bi} (he : evE Γ f σ h = .ok d h1) (hg : biD bb [d] h1 = .ok d2 h2) : evE Γ (.bi bb (.cons f .nil)) σ h = .ok d2 h2 := by
  show ((evE Γ f σ h).bind fun x h1 => (Res.ok [] h1).bind fun xs h2 => Res.ok (x :: xs) h2).bind _ = _
  rw [he]
  exact hg
theorem T_of_E {bb : Bi} {es : Exs} {t : Bool} (he : evE Γ (.bi bb es) σ h = .ok (.bl t) h1) : evT Γ (.bi bb es) σ h = .ok t h1 := by
  have he : (evEs Γ es σ h).bind (fun ds h1 => biD bb ds h1) = .ok (.bl t) h1 := he
  show (evEs Γ es σ h).bind (fun ds h1 => (biD bb ds h1).bind trD) = _
  cases k : evEs Γ es σ h with
  | stuck => rw [k] at he; cases he
  | err _ _ => rw [k] at he; cases he
  | ok ds h2 =>
    rw [k] at he
    have he : biD bb ds h2 = .ok (.bl t) h1 := he
    rw [Res.bind_ok, he]
    rfl
theorem T_call {f : Nat} {es : Exs} {t : Bool} (he : evE Γ (.call f es) σ h = .ok (.bl t) h1) : evT Γ (.call f es) σ h = .ok t h1 := by
  have he : (evEs Γ es σ h).bind (fun ds h1 => match Γ.fn f with | some den => den ds h1 | none => .stuck) = .ok (.bl t) h1 := he
  show (evEs Γ es σ h).bind (fun ds h1 => match Γ.fn f with | some den => (den ds h1).bind trD | none => .stuck) = _
  cases k : evEs Γ es σ h with
  | stuck => rw [k] at he; cases he
  | err _ _ => rw [k] at he; cases he
  | ok ds h2 =>
    rw [k] at he
    rw [Res.bind_ok] at he ⊢
    cases k2 : Γ.fn f with
    | none => rw [k2] at he; cases he
    | some den =>
      rw [k2] at he
      have he : den ds h2 = .ok (.bl t) h1 := he
      dsimp only
      rw [he]
      rfl
theorem T_not {f : Ex} {t : Bool} (he : evT Γ f σ h = .ok t h1) : evT Γ (.bnot f) σ h = .ok (!t) h1 := by
  show (evT Γ f σ h).bind _ = _
  rw [he]
  rfl
theorem T_borF {f g : Ex} {t : Bool} (he : evT Γ f σ h = .ok false h1) (hg : evT Γ g σ h1 = .ok t h2) : evT Γ (.bor f g) σ h = .ok t h2 := by
  show (evT Γ f σ h).bind _ = _
  rw [he]
  exact hg
theorem T_borT {f g : Ex} (he : evT Γ f σ h = .ok true h1) : evT Γ (.bor f g) σ h = .ok true h1 := by
  show (evT Γ f σ h).bind _ = _
  rw [he]
  rfl
theorem T_bandT {f g : Ex} {t : Bool} (he : evT Γ f σ h = .ok true h1) (hg : evT Γ g σ h1 = .ok t h2) : evT Γ (.band f g) σ h = .ok t h2 := by
  show (evT Γ f σ h).bind _ = _
  rw [he]
  exact hg
theorem T_bandF {f g : Ex} (he : evT Γ f σ h = .ok false h1) : evT Γ (.band f g) σ h = .ok false h1 := by
  show (evT Γ f σ h).bind _ = _
  rw [he]
  rfl
theorem T_cmp {o : Cm} {f g : Ex} {t : Bool} {h3 : Hm} (he : evE Γ f σ h = .ok d h1) (hg : evE Γ g σ h1 = .ok d2 h2) (hc : cmpD o d d2 h2 = .ok t h3) : evT Γ (.cmp o f g) σ h = .ok t h3 := by
  show (evE Γ f σ h).bind _ = _
  rw [he, Res.bind_ok, hg]
  exact hc
theorem E_cmp {o : Cm} {f g : Ex} {t : Bool} {h3 : Hm} (he : evE Γ f σ h = .ok d h1) (hg : evE Γ g σ h1 = .ok d2 h2) (hc : cmpD o d d2 h2 = .ok t h3) : evE Γ (.cmp o f g) σ h = .ok (.bl t) h3 := by
  show (evE Γ f σ h).bind _ = _
  rw [he, Res.bind_ok, hg, Res.bind_ok, hc]
  rfl
theorem E_op2 {o : Op2} {f g : Ex} {h3 : Hm} {r : D} (he : evE Γ f σ h = .ok d h1) (hg : evE Γ g σ h1 = .ok d2 h2) (hc : opD o d d2 h2 = .ok r h3) : evE Γ (.op2 o f g) σ h = .ok r h3 := by
  show (evE Γ f σ h).bind _ = _
  rw [he, Res.bind_ok, hg]
  exact hc
theorem Es_nil : evEs Γ .nil σ h = .ok [] h := rfl
theorem Es_cons {f : Ex} {es : Exs} {ds : List D} (he : evE Γ f σ h = .ok d h1) (hg : evEs Γ es σ h1 = .ok ds h2) : evEs Γ (.cons f es) σ h = .ok (d :: ds) h2 := by
  show (evE Γ f σ h).bind _ = _
  rw [he, Res.bind_ok, hg]
  rfl
theorem E_lst {es : Exs} {ds : List D} (he : evEs Γ es σ h = .ok ds h1) (hl : ds.length ≤ 1000) : evE Γ (.lst es) σ h = .ok (.lst ds) h1 := by
  show (evEs Γ es σ h).bind _ = _
  rw [he, Res.bind_ok, decide_eq_true (show ds.length ≤ LIM from Nat.le_trans hl (by decide))]
  rfl
theorem E_tup {es : Exs} {ds : List D} (he : evEs Γ es σ h = .ok ds h1) (hl : ds.length ≤ 1000) : evE Γ (.tup es) σ h = .ok (.tup ds) h1 := by
  show (evEs Γ es σ h).bind _ = _
  rw [he, Res.bind_ok, decide_eq_true (show ds.length ≤ LIM from Nat.le_trans hl (by decide))]
  rfl
theorem E_ix {f g : Ex} {h3 : Hm} {r : D} (he : evE Γ f σ h = .ok d h1) (hg : evE Γ g σ h1 = .ok d2 h2) (hc : ixD d d2 h2 = .ok r h3) : evE Γ (.ix f g) σ h = .ok r h3 := by
  show (evE Γ f σ h).bind _ = _
  rw [he, Res.bind_ok, hg]
  exact hc
theorem E_callk {f : Nat} {es ks : Exs} {perm : List Nat} {ds zs : List D} {den : List D → Hm → Res D} {r : D} {h3 : Hm} (hg : Γ.fn f = some den) (he : evEs Γ es σ h = .ok ds h1) (hk : evEs Γ ks σ h1 = .ok zs h2) (hd : den (permV perm D.non ds zs) h2 = .ok r h3) : evE Γ (.callk f es ks perm) σ h = .ok r h3 := by
  show (evEs Γ es σ h).bind _ = _
  rw [he, Res.bind_ok, hk, Res.bind_ok, hg]
  exact hd
theorem T_callk {f : Nat} {es ks : Exs} {perm : List Nat} {t : Bool} (he : evE Γ (.callk f es ks perm) σ h = .ok (.bl t) h1) : evT Γ (.callk f es ks perm) σ h = .ok t h1 := by
  have he : (evEs Γ es σ h).bind (fun ds h1 => (evEs Γ ks σ h1).bind fun ks h2 => match Γ.fn f with | some den => den (permV perm D.non ds ks) h2 | none => .stuck) = .ok (.bl t) h1 := he
  show (evEs Γ es σ h).bind (fun ds h1 => (evEs Γ ks σ h1).bind fun ks h2 => match Γ.fn f with | some den => (den (permV perm D.non ds ks) h2).bind trD | none => .stuck) = _
  cases k : evEs Γ es σ h with
  | stuck => rw [k] at he; cases he
  | err _ _ => rw [k] at he; cases he
  | ok ds h2 =>
    rw [k, Res.bind_ok] at he
    rw [Res.bind_ok]
    cases k1 : evEs Γ ks σ h2 with
    | stuck => rw [k1] at he; cases he
    | err _ _ => rw [k1] at he; cases he
    | ok zs h3 =>
      rw [k1, Res.bind_ok] at he
      rw [Res.bind_ok]
      cases k2 : Γ.fn f with
      | none => rw [k2] at he; cases he
      | some den =>
        rw [k2] at he
        have he : den (permV perm D.non ds zs) h3 = .ok (.bl t) h1 := he
        dsimp only
        rw [he]
        rfl
end
/-- a comprehension without changes: the list of what f tells -/
theorem comp_pure {f : D → Hm → Res (Option D)} {g : D → Option D} {h : Hm} : ∀ {xs acc : List D}, (∀ x ∈ xs, ∀ t, f x (h ++ [t]) = .ok (g x) (h ++ [t])) → acc.length + xs.length ≤ LIM →
    compLoop f h.length xs (h ++ [MO.lst acc]) = .ok () (h ++ [MO.lst (acc ++ xs.filterMap g)])
  | [], acc, _, _ => by simp [compLoop]
  | x :: xs, acc, hf, hl => by
    have e1 := hf x List.mem_cons_self (.lst acc)
    have hl' : acc.length + (xs.length + 1) ≤ LIM := hl
    unfold compLoop
    rw [e1]
    cases k : g x with
    | none =>
      show compLoop f h.length xs (h ++ [MO.lst acc]) = _
      rw [comp_pure (fun y hy => hf y (List.mem_cons_of_mem _ hy)) (by omega), List.filterMap_cons_none k]
    | some y =>
      have e2 : listOf? (h ++ [MO.lst acc]) h.length = some acc := by
        unfold listOf?
        rw [List.getElem?_append_right (Nat.le_refl _)]
        simp
      have e3 : (h ++ [MO.lst acc]).set h.length (.lst (acc ++ [y])) = h ++ [MO.lst (acc ++ [y])] := by
        rw [List.set_append_right _ _ (Nat.le_refl _)]
        simp
      rw [Res.bind_ok]
      dsimp only
      rw [e2]
      dsimp only
      have e4 : (h ++ [MO.lst acc]).set h.length (.lst (acc ++ [y])) = h ++ [MO.lst (acc ++ [y])] := e3
      rw [decide_eq_true (show acc.length < LIM by omega), Res.guard_true, e4, comp_pure (fun y hy => hf y (List.mem_cons_of_mem _ hy)) (by rw [List.length_append]; simp; omega), List.filterMap_cons_some k, List.append_assoc]
      rfl
theorem endC_pure {h : Hm} {ys : List D} (b : belowDs h.length ys = true) : endC h (h ++ [MO.lst ys]) ys = h := by
  unfold endC
  rw [if_pos]
  refine ⟨⟨?_, ?_⟩, b⟩
  · simp
  · simp
/-- [elt for tg in it if cond], nothing changed -/
theorem ev_comp {Γ : Gam} {own : List (Str × Nat)} {tg : Tg} {it : It} {cond : Exs} {elt : Ex} {σ : Sg} {h h1 : Hm} {src : List D} (g : D → Option D) (hi : evI Γ it σ h = .ok src h1)
    (hg : ∀ x ∈ src, ∀ t, ∃ σ', asgD tg x (wipeD σ (own.map (·.2))) = some σ' ∧ (match g x with
      | some y => evTs Γ cond σ' (h1 ++ [t]) = .ok true (h1 ++ [t]) ∧ evE Γ elt σ' (h1 ++ [t]) = .ok y (h1 ++ [t])
      | none => evTs Γ cond σ' (h1 ++ [t]) = .ok false (h1 ++ [t])))
    (hl : src.length ≤ LIM) (hb : ∀ x ∈ src, ∀ y, g x = some y → belowD h1.length y = true) : evE Γ (.comp false own tg it cond elt) σ h = .ok (.lst (src.filterMap g)) h1 := by
  have b : belowDs h1.length (src.filterMap g) = true := belowDs_of fun y hy => by
    obtain ⟨x, hx, e⟩ := List.mem_filterMap.mp hy
    exact hb x hx y e
  unfold evE
  rw [hi]
  show (compLoop _ h1.length src (h1 ++ [MO.lst []])).bind _ = _
  rw [comp_pure (g := g) (fun x hx t => ?_) (by simpa using hl)]
  · show (match listOf? (h1 ++ [MO.lst ([] ++ src.filterMap g)]) h1.length with
      | some ys => Res.ok (D.lst ys) (endC h1 (h1 ++ [MO.lst ([] ++ src.filterMap g)]) ys)
      | none => .stuck) = _
    have e2 : listOf? (h1 ++ [MO.lst ([] ++ src.filterMap g)]) h1.length = some (src.filterMap g) := by
      unfold listOf?
      rw [List.getElem?_append_right (Nat.le_refl _)]
      simp
    rw [e2]
    dsimp only
    rw [List.nil_append, endC_pure b]
  · obtain ⟨σ', a1, a2⟩ := hg x hx t
    rw [a1]
    dsimp only
    cases k : g x with
    | none =>
      rw [k] at a2
      dsimp only at a2
      rw [a2]
      rfl
    | some y =>
      rw [k] at a2
      dsimp only at a2
      rw [a2.1]
      show (evE Γ elt σ' (h1 ++ [t])).bind _ = _
      rw [a2.2]
      rfl
theorem lim0 : decide (0 ≤ LIM) = true := rfl
theorem lim1 : decide (1 ≤ LIM) = true := rfl
theorem lim2 : decide (2 ≤ LIM) = true := rfl
theorem lim3 : decide (3 ≤ LIM) = true := rfl
theorem lim4 : decide (4 ≤ LIM) = true := rfl
theorem lim5 : decide (5 ≤ LIM) = true := rfl
theorem lim6 : decide (6 ≤ LIM) = true := rfl
theorem lim7 : decide (7 ≤ LIM) = true := rfl
theorem lim8 : decide (8 ≤ LIM) = true := rfl
theorem lim9 : decide (9 ≤ LIM) = true := rfl
theorem lim10 : decide (10 ≤ LIM) = true := rfl
theorem lim11 : decide (11 ≤ LIM) = true := rfl
theorem lim12 : decide (12 ≤ LIM) = true := rfl
theorem lim13 : decide (13 ≤ LIM) = true := rfl
theorem lim14 : decide (14 ≤ LIM) = true := rfl
theorem lim15 : decide (15 ≤ LIM) = true := rfl
theorem lim16 : decide (16 ≤ LIM) = true := rfl
theorem lim17 : decide (17 ≤ LIM) = true := rfl
theorem lim18 : decide (18 ≤ LIM) = true := rfl
theorem lim19 : decide (19 ≤ LIM) = true := rfl
theorem lim20 : decide (20 ≤ LIM) = true := rfl
theorem lim21 : decide (21 ≤ LIM) = true := rfl
theorem lim22 : decide (22 ≤ LIM) = true := rfl
theorem lim23 : decide (23 ≤ LIM) = true := rfl
theorem lim24 : decide (24 ≤ LIM) = true := rfl
theorem lim25 : decide (25 ≤ LIM) = true := rfl
theorem lim26 : decide (26 ≤ LIM) = true := rfl
theorem lim27 : decide (27 ≤ LIM) = true := rfl
theorem lim28 : decide (28 ≤ LIM) = true := rfl
theorem lim29 : decide (29 ≤ LIM) = true := rfl
theorem lim30 : decide (30 ≤ LIM) = true := rfl
theorem lim31 : decide (31 ≤ LIM) = true := rfl
theorem lim32 : decide (32 ≤ LIM) = true := rfl
theorem lim33 : decide (33 ≤ LIM) = true := rfl
theorem lim34 : decide (34 ≤ LIM) = true := rfl
theorem lim35 : decide (35 ≤ LIM) = true := rfl
theorem lim36 : decide (36 ≤ LIM) = true := rfl
theorem lim37 : decide (37 ≤ LIM) = true := rfl
theorem lim38 : decide (38 ≤ LIM) = true := rfl
theorem lim39 : decide (39 ≤ LIM) = true := rfl
theorem lim40 : decide (40 ≤ LIM) = true := rfl
theorem ixN_nat {n i : Nat} (h : i < n) : ixN n (i : Int) = some i := by
  unfold ixN
  rw [if_pos (Int.natCast_nonneg i), if_pos (by omega)]
  rfl
theorem atI_nat {α : Type} {xs : List α} {i : Nat} (h : i < xs.length) : atI xs (i : Int) = xs[i]? := by
  unfold atI
  rw [ixN_nat h]
  rfl
theorem at0 {α : Type} (x : α) (xs : List α) : atI (x :: xs) 0 = some x := by
  have := atI_nat (xs := x :: xs) (i := 0) (by simp)
  simpa using this
theorem at1 {α : Type} (x y : α) (xs : List α) : atI (x :: y :: xs) 1 = some y := by
  have := atI_nat (xs := x :: y :: xs) (i := 1) (by simp)
  simpa using this
theorem at2 {α : Type} (x y z : α) (xs : List α) : atI (x :: y :: z :: xs) 2 = some z := by
  have := atI_nat (xs := x :: y :: z :: xs) (i := 2) (by simp)
  simpa using this
theorem at3 {α : Type} (x y z u : α) (xs : List α) : atI (x :: y :: z :: u :: xs) 3 = some u := by
  have := atI_nat (xs := x :: y :: z :: u :: xs) (i := 3) (by simp)
  simpa using this
/-- the reading of a body, as far as it computes -/
local macro_rules | `(tactic| fail "mini mw") => `(tactic| simp only [wipeD, wpB, wpS, evE, evEs, evT, evTs, evO, evI, startD, List.map, List.length, List.replicate, List.append, List.cons_append, List.nil_append, List.getElem?_cons_zero, List.getElem?_cons_succ, List.getElem?_nil, List.set_cons_zero, List.set_cons_succ, List.set_nil, Nat.sub_self, Nat.reduceSub, Nat.reduceAdd, Nat.reduceMul, Nat.reduceEqDiff, List.replicate_zero, List.replicate_succ, List.append_nil, Res.bind_ok, Res.bind_stuck, Res.guard_true, Res.guard_false, Res.wp_ok, Res.wp_stuck, asgD, setAll, if_true, if_false, Bool.not_true, Bool.not_false, decide_true, decide_false, decide_eq_true_eq, Bool.false_eq_true, lim0, lim1, lim2, lim3, lim4, lim5, lim6, lim7, lim8, lim9, lim10, lim11, lim12, lim13, lim14, lim15, lim16, lim17, lim18, lim19, lim20, lim21, lim22, lim23, lim24, lim25, lim26, lim27, lim28, lim29, lim30, lim31, lim32, lim33, lim34, lim35, lim36, lim37, lim38, lim39, lim40, at0, at1, at2, at3, ty_int_non, ty_int_bl, ty_int_int, ty_int_str, ty_int_tup, ty_int_lst, ty_int_ref, ty_int_wtup, ty_bool_non, ty_bool_bl, ty_bool_int, ty_bool_str, ty_bool_tup, ty_bool_lst, ty_bool_ref, ty_bool_wtup, ty_str_non, ty_str_bl, ty_str_int, ty_str_str, ty_str_tup, ty_str_lst, ty_str_ref, ty_str_wtup, ty_tuple_non, ty_tuple_bl, ty_tuple_int, ty_tuple_str, ty_tuple_tup, ty_tuple_lst, ty_tuple_ref, ty_tuple_wtup, ty_list_non, ty_list_bl, ty_list_int, ty_list_str, ty_list_tup, ty_list_lst, ty_list_ref, ty_list_wtup, open_non, isNon_non, open_bl, isNon_bl, open_int, isNon_int, open_str, isNon_str, open_tup, isNon_tup, open_lst, isNon_lst, open_wtup, isNon_wtup, isNon_ref, open_ref, op_addI, op_addS, op_addL, op_addT, op_addML, op_subI, op_mulI, op_fdivI, op_modI, op_powI, cm_lt, cm_le, cm_gt, cm_ge, cm_eq, cm_ne, bi_lenT, bi_lenL, bi_lenS, bi_abs, bi_intI, bi_intB, bi_tupT, bi_tupL, bi_lstT, bi_lstL, bi_allL, bi_anyL, bi_sortedL, ix_tup, ix_lst, ix_ref, tr_bl, it_tup, it_lst, eq_int, eq_bl, lst_lst, lst_ref])
/-- of an expression -/
local macro_rules | `(tactic| fail "mini ew") => `(tactic| simp only [wipeD, evE, evEs, evT, evTs, evO, evI, startD, List.map, List.length, List.replicate, List.append, List.cons_append, List.nil_append, List.getElem?_cons_zero, List.getElem?_cons_succ, List.getElem?_nil, List.set_cons_zero, List.set_cons_succ, List.set_nil, Nat.sub_self, Nat.reduceSub, Nat.reduceAdd, Nat.reduceMul, Nat.reduceEqDiff, List.replicate_zero, List.replicate_succ, List.append_nil, Res.bind_ok, Res.bind_stuck, Res.guard_true, Res.guard_false, Res.wp_ok, Res.wp_stuck, asgD, setAll, if_true, if_false, Bool.not_true, Bool.not_false, decide_true, decide_false, decide_eq_true_eq, Bool.false_eq_true, lim0, lim1, lim2, lim3, lim4, lim5, lim6, lim7, lim8, lim9, lim10, lim11, lim12, lim13, lim14, lim15, lim16, lim17, lim18, lim19, lim20, lim21, lim22, lim23, lim24, lim25, lim26, lim27, lim28, lim29, lim30, lim31, lim32, lim33, lim34, lim35, lim36, lim37, lim38, lim39, lim40, at0, at1, at2, at3, ty_int_non, ty_int_bl, ty_int_int, ty_int_str, ty_int_tup, ty_int_lst, ty_int_ref, ty_int_wtup, ty_bool_non, ty_bool_bl, ty_bool_int, ty_bool_str, ty_bool_tup, ty_bool_lst, ty_bool_ref, ty_bool_wtup, ty_str_non, ty_str_bl, ty_str_int, ty_str_str, ty_str_tup, ty_str_lst, ty_str_ref, ty_str_wtup, ty_tuple_non, ty_tuple_bl, ty_tuple_int, ty_tuple_str, ty_tuple_tup, ty_tuple_lst, ty_tuple_ref, ty_tuple_wtup, ty_list_non, ty_list_bl, ty_list_int, ty_list_str, ty_list_tup, ty_list_lst, ty_list_ref, ty_list_wtup, open_non, isNon_non, open_bl, isNon_bl, open_int, isNon_int, open_str, isNon_str, open_tup, isNon_tup, open_lst, isNon_lst, open_wtup, isNon_wtup, isNon_ref, open_ref, op_addI, op_addS, op_addL, op_addT, op_addML, op_subI, op_mulI, op_fdivI, op_modI, op_powI, cm_lt, cm_le, cm_gt, cm_ge, cm_eq, cm_ne, bi_lenT, bi_lenL, bi_lenS, bi_abs, bi_intI, bi_intB, bi_tupT, bi_tupL, bi_lstT, bi_lstL, bi_allL, bi_anyL, bi_sortedL, ix_tup, ix_lst, ix_ref, tr_bl, it_tup, it_lst, eq_int, eq_bl, lst_lst, lst_ref])
/-- a comprehension whose list may be written on -/
theorem ev_compM {Γ : Gam} {own : List (Str × Nat)} {tg : Tg} {it : It} {cond : Exs} {elt : Ex} {σ : Sg} {h h1 : Hm} {src : List D} (g : D → Option D) (hi : evI Γ it σ h = .ok src h1)
    (hg : ∀ x ∈ src, ∀ t, ∃ σ', asgD tg x (wipeD σ (own.map (·.2))) = some σ' ∧ (match g x with
      | some y => evTs Γ cond σ' (h1 ++ [t]) = .ok true (h1 ++ [t]) ∧ evE Γ elt σ' (h1 ++ [t]) = .ok y (h1 ++ [t])
      | none => evTs Γ cond σ' (h1 ++ [t]) = .ok false (h1 ++ [t])))
    (hl : src.length ≤ LIM) : evE Γ (.comp true own tg it cond elt) σ h = .ok (.ref h1.length) (h1 ++ [MO.lst (src.filterMap g)]) := by
  unfold evE
  rw [hi]
  show (compLoop _ h1.length src (h1 ++ [MO.lst []])).bind _ = _
  rw [comp_pure (g := g) (fun x hx t => ?_) (by simpa using hl)]
  · have e2 : listOf? (h1 ++ [MO.lst ([] ++ src.filterMap g)]) h1.length = some (src.filterMap g) := by
      unfold listOf?
      rw [List.getElem?_append_right (Nat.le_refl _)]
      simp
    rw [Res.bind_ok, e2]
    dsimp only
    rw [List.nil_append]
  · obtain ⟨σ', a1, a2⟩ := hg x hx t
    rw [a1]
    dsimp only
    cases k : g x with
    | none =>
      rw [k] at a2
      dsimp only at a2
      rw [a2]
      rfl
    | some y =>
      rw [k] at a2
      dsimp only at a2
      rw [a2.1]
      show (evE Γ elt σ' (h1 ++ [t])).bind _ = _
      rw [a2.2]
      rfl
theorem mulOk_r {i j : Int} (h1 : -(2 ^ 64) < j) (h2 : j < 2 ^ 64) : mulOk i j = true := by
  unfold mulOk
  rw [decide_eq_true h1, decide_eq_true h2, Bool.and_self, Bool.or_true]
theorem mulOk_l {i j : Int} (h1 : -(2 ^ 64) < i) (h2 : i < 2 ^ 64) : mulOk i j = true := by
  unfold mulOk
  rw [decide_eq_true h1, decide_eq_true h2, Bool.and_self, Bool.or_true, Bool.true_or]
theorem divOk_of {j : Int} (h0 : j ≠ 0) (h : j.natAbs.log2 < 9000) : divOk j = true := by
  unfold divOk
  rw [decide_eq_true h0, decide_eq_true h]
  rfl
theorem ints_map : ∀ zs : List Int, intsOf (zs.map D.int) = some zs
  | [] => rfl
  | z :: zs => by
    show (intsOf (zs.map D.int)).map (z :: ·) = _
    rw [ints_map zs]
    rfl
theorem ints_eq : ∀ {xs : List D} {zs : List Int}, intsOf xs = some zs → xs = zs.map D.int
  | [], _, e => by cases e; rfl
  | x :: xs, zs, e => by
    cases x <;> first | cases e | skip
    rename_i z
    have e : (intsOf xs).map (z :: ·) = some zs := e
    cases k : intsOf xs with
    | none => rw [k] at e; cases e
    | some ys =>
      rw [k] at e
      cases e
      rw [ints_eq k]
      rfl
theorem listOf_app {h t : Hm} {n : Nat} (hn : n < h.length) : listOf? (h ++ t) n = listOf? h n := by
  unfold listOf?
  rw [List.getElem?_append_left hn]
theorem listOf_lt {h : Hm} {n : Nat} {xs : List D} (e : listOf? h n = some xs) : n < h.length := (List.getElem?_eq_some_iff.mp (listOf_eq e)).1
theorem listOf_set_same {h : Hm} {n : Nat} {xs : List D} (hn : n < h.length) : listOf? (h.set n (.lst xs)) n = some xs := by
  unfold listOf?
  rw [List.getElem?_set_self hn]
theorem listOf_set_ne {h : Hm} {n m : Nat} {o : MO} (hn : n ≠ m) : listOf? (h.set n o) m = listOf? h m := by
  unfold listOf?
  rw [List.getElem?_set_ne hn]
theorem listOf_new {h t : Hm} {xs : List D} : listOf? (h ++ MO.lst xs :: t) h.length = some xs := by
  unfold listOf?
  rw [List.getElem?_append_right (Nat.le_refl _)]
  simp
theorem canLay_ints : ∀ zs : List Int, toPys (zs.map D.int) = some (zs.map PyData.int) ∧ PyData.canLayAll0 (zs.map PyData.int) = true ∧ PyData.depthAll (zs.map PyData.int) = 0
  | [] => ⟨rfl, rfl, rfl⟩
  | z :: zs => by
    obtain ⟨a, b, c⟩ := canLay_ints zs
    refine ⟨?_, ?_, ?_⟩
    · show (match toPy (.int z), toPys (zs.map D.int) with | some p, some ps => some (p :: ps) | _, _ => none) = _
      rw [a]
      rfl
    · show (PyData.canLay0 (.int z) && PyData.canLayAll0 (zs.map PyData.int)) = true
      rw [b]
      rfl
    · show max (PyData.depth (.int z)) (PyData.depthAll (zs.map PyData.int)) = 0
      rw [c]
      rfl
/-- xs == [] of a list of ints -/
theorem eq_nil {h : Hm} {n : Nat} {zs : List Int} (e : listOf? h n = some (zs.map D.int)) : eqD (.ref n) (.lst []) h = .ok zs.isEmpty h := by
  obtain ⟨a, b, c⟩ := canLay_ints zs
  unfold eqD
  have e1 : toPyH h (.ref n) = some (.list (zs.map PyData.int)) := by
    show ((listOf? h n).bind toPys).map PyData.list = _
    rw [e]
    show (toPys (zs.map D.int)).map PyData.list = _
    rw [a]
    rfl
  have e2 : toPyH h (.lst []) = some (.list []) := rfl
  rw [e1, e2]
  have s1 : SeqAt.shaped (.list (zs.map PyData.int)) = true := by
    unfold SeqAt.shaped
    show (PyData.canLayAll0 (zs.map PyData.int) && decide (PyData.depthAll (zs.map PyData.int) + 1 ≤ 64)) = true
    rw [b, c]
    rfl
  have s2 : SeqAt.shaped (.list []) = true := rfl
  dsimp only
  rw [s1, s2]
  cases zs <;> rfl
theorem pop0 {h : Hm} {n : Nat} {y : D} {ys : List D} (e : listOf? h n = some (y :: ys)) : mtD .popAt (.ref n) [.int 0] h = .ok y (h.set n (.lst ys)) := by
  show (match listOf? h n with
      | some xs => match (if 0 ≤ (0 : Int) ∧ (0 : Int) < xs.length then xs[(0 : Int).toNat]? else none) with
        | some y => Res.ok y (h.set n (.lst (xs.eraseIdx (0 : Int).toNat)))
        | none => .stuck
      | none => .stuck) = _
  rw [e]
  dsimp only
  rw [if_pos ⟨by decide, by rw [List.length_cons]; omega⟩]
  rfl
theorem rcv_pop {h : Hm} {n : Nat} {xs : List D} (e : listOf? h n = some xs) : rcvD .popAt (.ref n) h = true := by
  show (listOf? h n).isSome = true
  rw [e]
  rfl
theorem rcv_app {h : Hm} {n : Nat} {xs : List D} (e : listOf? h n = some xs) : rcvD .append (.ref n) h = true := by
  show (listOf? h n).isSome = true
  rw [e]
  rfl
theorem app1 {h : Hm} {n : Nat} {xs : List D} {x : D} (e : listOf? h n = some xs) (hl : xs.length < LIM) : mtD .append (.ref n) [x] h = .ok .non (h.set n (.lst (xs ++ [x]))) := by
  show (match listOf? h n with
    | some xs => Res.guard (decide (xs.length < LIM)) (Res.ok D.non (h.set n (.lst (xs ++ [x]))))
    | none => .stuck) = _
  rw [e]
  dsimp only
  rw [decide_eq_true hl]
  rfl
theorem set_same {h : Hm} {n : Nat} {xs : List D} (e : listOf? h n = some xs) : h.set n (.lst xs) = h := by
  have e := listOf_eq e
  apply List.ext_getElem?
  intro i
  by_cases c : n = i
  · subst c
    rw [e, List.getElem?_set_self (List.getElem?_eq_some_iff.mp e).1]
  · rw [List.getElem?_set_ne c]
/-! ### plain data: equal to itself -/
def plainD : Nat → D → Bool
  | _, .non => true
  | _, .bl _ => true
  | _, .int _ => true
  | _, .str x => PyData.strOk x
  | k + 1, .tup xs => decide (xs.length ≤ 1000) && xs.all (plainD k)
  | k + 1, .lst xs => decide (xs.length ≤ 1000) && xs.all (plainD k)
  | _, _ => false
theorem eqvAll_refl : ∀ {ps : List PyData}, (∀ p ∈ ps, PyData.eqv p p = true) → PyData.eqvAll ps ps = true
  | [], _ => rfl
  | p :: ps, h => by
    show (PyData.eqv p p && PyData.eqvAll ps ps) = true
    rw [h p List.mem_cons_self, eqvAll_refl fun q hq => h q (List.mem_cons_of_mem _ hq)]
    rfl
theorem plain_py : ∀ (k : Nat) (d : D), plainD k d = true → ∃ p, toPy d = some p ∧ PyData.canLay0 p = true ∧ PyData.depth p ≤ k ∧ PyData.eqv p p = true := by
  intro k
  have key : ∀ (k : Nat), (∀ d, plainD k d = true → ∃ p, toPy d = some p ∧ PyData.canLay0 p = true ∧ PyData.depth p ≤ k ∧ PyData.eqv p p = true) →
      ∀ xs : List D, xs.all (plainD k) = true → ∃ ps, toPys xs = some ps ∧ PyData.canLayAll0 ps = true ∧ PyData.depthAll ps ≤ k ∧ PyData.eqvAll ps ps = true := by
    intro k ih xs
    induction xs with
    | nil => exact fun _ => ⟨[], rfl, rfl, Nat.zero_le _, rfl⟩
    | cons x xs ihx =>
      intro h
      rw [List.all_cons, Bool.and_eq_true] at h
      obtain ⟨p, a1, a2, a3, a4⟩ := ih x h.1
      obtain ⟨ps, b1, b2, b3, b4⟩ := ihx h.2
      refine ⟨p :: ps, ?_, ?_, ?_, ?_⟩
      · show (match toPy x, toPys xs with | some p, some ps => some (p :: ps) | _, _ => none) = _
        rw [a1, b1]
      · show (PyData.canLay0 p && PyData.canLayAll0 ps) = true
        rw [a2, b2]
        rfl
      · show max (PyData.depth p) (PyData.depthAll ps) ≤ k
        omega
      · show (PyData.eqv p p && PyData.eqvAll ps ps) = true
        rw [a4, b4]
        rfl
  induction k with
  | zero =>
    intro d h
    cases d with
    | non => exact ⟨_, rfl, rfl, Nat.zero_le _, rfl⟩
    | bl b => exact ⟨_, rfl, rfl, Nat.zero_le _, by cases b <;> rfl⟩
    | int i => exact ⟨_, rfl, rfl, Nat.zero_le _, by simp [PyData.eqv]⟩
    | str x => exact ⟨_, rfl, h, Nat.zero_le _, by simp [PyData.eqv]⟩
    | _ => exact Bool.noConfusion h
  | succ k ih =>
    intro d h
    cases d with
    | non => exact ⟨_, rfl, rfl, Nat.zero_le _, rfl⟩
    | bl b => exact ⟨_, rfl, rfl, Nat.zero_le _, by cases b <;> rfl⟩
    | int i => exact ⟨_, rfl, rfl, Nat.zero_le _, by simp [PyData.eqv]⟩
    | str x => exact ⟨_, rfl, h, Nat.zero_le _, by simp [PyData.eqv]⟩
    | tup xs =>
      have h : (decide (xs.length ≤ 1000) && xs.all (plainD k)) = true := h
      rw [Bool.and_eq_true] at h
      obtain ⟨ps, b1, b2, b3, b4⟩ := key k ih xs h.2
      refine ⟨.tuple ps, ?_, b2, Nat.succ_le_succ b3, b4⟩
      show (toPys xs).map PyData.tuple = _
      rw [b1]
      rfl
    | lst xs =>
      have h : (decide (xs.length ≤ 1000) && xs.all (plainD k)) = true := h
      rw [Bool.and_eq_true] at h
      obtain ⟨ps, b1, b2, b3, b4⟩ := key k ih xs h.2
      refine ⟨.list ps, ?_, b2, Nat.succ_le_succ b3, b4⟩
      show (toPys xs).map PyData.list = _
      rw [b1]
      rfl
    | _ => exact Bool.noConfusion h
theorem toPyH_of {h : Hm} {d : D} {p : PyData} (e : toPy d = some p) : toPyH h d = some p := by
  cases d <;> first | exact e | cases e
theorem eq_refl {k : Nat} {d : D} (hk : k ≤ 64) (h : plainD k d = true) (h1 : Hm) : eqD d d h1 = .ok true h1 := by
  obtain ⟨p, a1, a2, a3, a4⟩ := plain_py k d h
  unfold eqD
  rw [toPyH_of a1]
  have s1 : SeqAt.shaped p = true := by
    unfold SeqAt.shaped
    rw [a2, decide_eq_true (show p.depth ≤ 64 by omega)]
    rfl
  dsimp only
  rw [s1, a4]
  rfl
theorem plain_mono {k : Nat} : ∀ {d : D}, plainD k d = true → plainD (k + 1) d = true := by
  induction k with
  | zero => intro d h; cases d <;> first | exact h | exact Bool.noConfusion h
  | succ k ih =>
    intro d h
    cases d with
    | tup xs =>
      have h : (decide (xs.length ≤ 1000) && xs.all (plainD k)) = true := h
      rw [Bool.and_eq_true, List.all_eq_true] at h
      show (decide (xs.length ≤ 1000) && xs.all (plainD (k + 1))) = true
      rw [Bool.and_eq_true, List.all_eq_true]
      exact ⟨h.1, fun x hx => ih (h.2 x hx)⟩
    | lst xs =>
      have h : (decide (xs.length ≤ 1000) && xs.all (plainD k)) = true := h
      rw [Bool.and_eq_true, List.all_eq_true] at h
      show (decide (xs.length ≤ 1000) && xs.all (plainD (k + 1))) = true
      rw [Bool.and_eq_true, List.all_eq_true]
      exact ⟨h.1, fun x hx => ih (h.2 x hx)⟩
    | _ => first | exact h | exact Bool.noConfusion h
theorem small_len {n : Nat} (hl : n ≤ 1000000) : smallI (n : Int) = true := smallI_mk (by omega) (by omega)
theorem guard_eq {α : Type} {b : Bool} {r : Res α} (h : b = true) : Res.guard b r = r := by
  subst h
  rfl
theorem I_rng1 {Γ : Gam} {a : Ex} {σ : Sg} {h h1 : Hm} {n : Nat} (he : evE Γ a σ h = .ok (.int n) h1) (hl : n ≤ 1000000) : evI Γ (.rng1 a) σ h = .ok (rngD 0 n) h1 := by
  have e : evI Γ (.rng1 a) σ h = (evE Γ a σ h).bind fun x h1 => match x with
    | .int j => .guard (smallI j) (.ok (rngD 0 j.toNat) h1)
    | _ => .stuck := rfl
  rw [e, he, Res.bind_ok]
  dsimp only
  rw [guard_eq (small_len hl), Int.toNat_natCast]
theorem I_rng2 {Γ : Gam} {a b : Ex} {σ : Sg} {h h1 h2 : Hm} {m n : Nat} (he : evE Γ a σ h = .ok (.int m) h1) (hb : evE Γ b σ h1 = .ok (.int n) h2) (hm : m ≤ 1000000) (hl : n ≤ 1000000) : evI Γ (.rng2 a b) σ h = .ok (rngD m (n - m)) h2 := by
  have e : evI Γ (.rng2 a b) σ h = (evE Γ a σ h).bind fun x h1 => (evE Γ b σ h1).bind fun y h2 => match x, y with
    | .int i, .int j => .ok (rngD i (j - i).toNat) h2
    | _, _ => .stuck := rfl
  rw [e, he, Res.bind_ok, hb, Res.bind_ok]
  dsimp only
  congr 2
  omega
/-- a turn of a comprehension -/
noncomputable def stepC (Γ : Gam) (own : List (Str × Nat)) (tg : Tg) (cond : Exs) (elt : Ex) (σ : Sg) (x : D) (h2 : Hm) : Res (Option D) := match asgD tg x (wipeD σ (own.map (·.2))) with
  | some σ' => (evTs Γ cond σ' h2).bind fun t h3 => match t with
    | true => (evE Γ elt σ' h3).bind fun y h4 => .ok (some y) h4
    | false => .ok none h3
  | none => .stuck
theorem ev_comp_eq {Γ : Gam} {own : List (Str × Nat)} {tg : Tg} {it : It} {cond : Exs} {elt : Ex} {σ : Sg} {h : Hm} : evE Γ (.comp false own tg it cond elt) σ h = (evI Γ it σ h).bind fun src h1 =>
    (compLoop (stepC Γ own tg cond elt σ) h1.length src (h1 ++ [MO.lst []])).bind fun _ h2 => match listOf? h2 h1.length with
      | some ys => .ok (.lst ys) (endC h1 h2 ys)
      | none => .stuck := by
  unfold evE
  rfl
theorem stepC_some {Γ : Gam} {own : List (Str × Nat)} {tg : Tg} {cond : Exs} {elt : Ex} {σ σ' : Sg} {x y : D} {h h1 h2 : Hm} (ha : asgD tg x (wipeD σ (own.map (·.2))) = some σ') (ht : evTs Γ cond σ' h = .ok true h1) (he : evE Γ elt σ' h1 = .ok y h2) : stepC Γ own tg cond elt σ x h = .ok (some y) h2 := by
  unfold stepC
  rw [ha]
  dsimp only
  rw [ht, Res.bind_ok]
  dsimp only
  rw [he]
  rfl
theorem stepC_none {Γ : Gam} {own : List (Str × Nat)} {tg : Tg} {cond : Exs} {elt : Ex} {σ σ' : Sg} {x : D} {h h1 : Hm} (ha : asgD tg x (wipeD σ (own.map (·.2))) = some σ') (ht : evTs Γ cond σ' h = .ok false h1) : stepC Γ own tg cond elt σ x h = .ok none h1 := by
  unfold stepC
  rw [ha]
  dsimp only
  rw [ht]
  rfl
theorem loop_cons {f : D → Hm → Res (Option D)} {n : Nat} {x y : D} {xs acc : List D} {h h1 : Hm} (hf : f x h = .ok (some y) h1) (hl : listOf? h1 n = some acc) (hz : acc.length ≤ 1000) : compLoop f n (x :: xs) h = compLoop f n xs (h1.set n (.lst (acc ++ [y]))) := by
  show (f x h).bind _ = _
  rw [hf, Res.bind_ok]
  dsimp only
  rw [hl]
  dsimp only
  exact guard_eq (decide_eq_true (Nat.lt_of_le_of_lt hz (by decide)))
theorem loop_skip {f : D → Hm → Res (Option D)} {n : Nat} {x : D} {xs : List D} {h h1 : Hm} (hf : f x h = .ok none h1) : compLoop f n (x :: xs) h = compLoop f n xs h1 := by
  show (f x h).bind _ = _
  rw [hf]
  rfl

/-! Mini 18: a module's defs, one by one; the end. -/
/-- a def as it stands behind the top -/
def DefAt (K : PySem.W.Frag) (x : Str) (st : Stmt) : Prop := ∃ (f : Addr) (fd : FuncData), PySem.W.nsIn K mainGlobals x = some (some (.ref f)) ∧ Fun K x x st f fd
theorem def_at {K : PySem.W.Frag} {x : Str} {st : Stmt} {f : Addr} {oc : Value} {od an : Option Addr} {osl : Array (Option Value)} {kV doc pm cdv ct : Value} (a : PySem.W.nsIn K mainGlobals x = some (some (.ref f)))
    (l : K.lookup f = some ⟨oc, od, .func (PySem.W.fnOf x x (defArgs st) (defBody st) (defScope st) .none kV doc pm an cdv ct), osl⟩) (c : PySem.W.codeIn K cdv x = true) (k : PySem.W.keepIn K (.ref f) = true) : DefAt K x st := ⟨_, _, a, fun_mk l c k⟩
/-- what a body may call, by a list -/
def gamL (l : List (Nat × (List D → Hm → Res D))) (gl : List (Nat × D)) : Gam := ⟨fun i => l.lookup i, fun g => gl.lookup g⟩
section
variable {P : Program} {w : World} {K : PySem.W.Frag} {mg : Str → Option Value} {base h0 : Heap} {k : Nat} {c : Ctx}
def Fns (P : Program) (w : World) (K : PySem.W.Frag) (mg : Str → Option Value) (base : Heap) (k : Nat) (c : Ctx) : List (Nat × (List D → Hm → Res D)) → Prop
  | [] => True
  | p :: r => (∃ x, c.fnm[p.1]? = some x ∧ FnAt P w K mg base k x p.2) ∧ Fns P w K mg base k c r
def Kws (P : Program) (w : World) (K : PySem.W.Frag) (mg : Str → Option Value) (base : Heap) (k : Nat) (c : Ctx) (Γ : Gam) : List (Nat × Nat × List Str × List Nat) → Prop
  | [] => True
  | e :: r => (∀ den, Γ.fn e.1 = some den → ∃ x, c.fnm[e.1]? = some x ∧ FnKAt P w K mg base k x den e.2.1 e.2.2.1 e.2.2.2) ∧ Kws P w K mg base k c Γ r
def Gls (K : PySem.W.Frag) (mg : Str → Option Value) (c : Ctx) : List (Nat × D) → Prop
  | [] => True
  | p :: r => (∃ x u v, c.glm[p.1]? = some x ∧ mg x = some u ∧ RelV v u ∧ ∀ H ρ M, RD K H ρ M p.2 v) ∧ Gls K mg c r
theorem Fns.at : ∀ {l : List (Nat × (List D → Hm → Res D))}, Fns P w K mg base k c l → ∀ i den, l.lookup i = some den → ∃ x, c.fnm[i]? = some x ∧ FnAt P w K mg base k x den
  | [], _, _, _, e => by cases e
  | p :: r, h, i, den, e => by
    obtain ⟨j, d⟩ := p
    rw [List.lookup_cons] at e
    split at e
    · rename_i c
      have c : i = j := by simpa using c
      subst c
      cases e
      exact h.1
    · exact Fns.at h.2 i den e
theorem Gls.at : ∀ {l : List (Nat × D)}, Gls K mg c l → ∀ g d, l.lookup g = some d → ∃ x u v, c.glm[g]? = some x ∧ mg x = some u ∧ RelV v u ∧ ∀ H ρ M, RD K H ρ M d v
  | [], _, _, _, e => by cases e
  | p :: r, h, i, den, e => by
    obtain ⟨j, d⟩ := p
    rw [List.lookup_cons] at e
    split at e
    · rename_i c
      have c : i = j := by simpa using c
      subst c
      cases e
      exact h.1
    · exact Gls.at h.2 i den e
theorem Kws.at {Γ : Gam} : ∀ {l : List (Nat × Nat × List Str × List Nat)}, Kws P w K mg base k c Γ l → ∀ i n ks perm den, (i, n, ks, perm) ∈ l → Γ.fn i = some den → ∃ x, c.fnm[i]? = some x ∧ FnKAt P w K mg base k x den n ks perm
  | [], _, _, _, _, _, _, m, _ => absurd m (by simp)
  | p :: r, h, i, n, ks, perm, den, m, e => by
    rcases List.mem_cons.mp m with q | q
    · subst q
      exact h.1 den e
    · exact Kws.at h.2 i n ks perm den q e
theorem env_mk {l : List (Nat × (List D → Hm → Res D))} {gl : List (Nat × D)} (bi : ∀ x ∈ bNames, mg x = none) (hf : Fns P w K mg base k c l) (hk : Kws P w K mg base k c (gamL l gl) c.kw) (hg : Gls K mg c gl)
    (hx : ∀ x ∈ c.exc, ExcAt K mg x := by exact fun _ h => nomatch h) (hm : ∀ p ∈ c.exm, ExmAt K mg p := by exact fun _ h => nomatch h) : EnvOk P w K mg base k c (gamL l gl) :=
  ⟨bi, fun i den e => hf.at i den e, fun i n ks perm den m e => hk.at i n ks perm den m e, fun g d e => hg.at g d e, hx, hm⟩
variable {x : Str} {st : Stmt} {ps : List Str} {Γ : Gam} {body : Blk} {den : List D → Hm → Res D}
theorem fn_step (A : DefAt K x st) (X : K.In h0) (G : h0.Ns mainGlobals mg) (S : FnScope c.N ps (defScope st)) (hc : c.names = (defScope st).names) (ho : c.own = none ∧ c.rp = false) (E : EnvOk P w K mg base k c Γ) (chk : chkB body c (defBody st) = true)
    (hbind : ∀ (kV doc pm : Value) (an : Option Addr) (cdv ct : Value) (us : List Value), us.length = ps.length → bindArgs (PySem.W.fnOf x x (defArgs st) (defBody st) (defScope st) .none kV doc pm an cdv ct) ⟨us, []⟩ = pure (ps.zip us))
    (hn : LenOk den ps.length) (hb : BodyOk Γ c.N body den) : FnAt P w K mg base (k + 1) x den := by
  obtain ⟨f, fd, a, F⟩ := A
  exact fnAt_mk F S hc ho E chk (PySem.W.mg_of X G a) (F.binds hbind) hn hb a
theorem fnk_step {n : Nat} {ks : List Str} {perm : List Nat} (A : DefAt K x st) (X : K.In h0) (G : h0.Ns mainGlobals mg) (S : FnScope c.N ps (defScope st)) (hc : c.names = (defScope st).names) (ho : c.own = none ∧ c.rp = false) (E : EnvOk P w K mg base k c Γ) (chk : chkB body c (defBody st) = true)
    (hbind : ∀ (kV doc pm : Value) (an : Option Addr) (cdv ct : Value) (us ws : List Value), us.length = n → ws.length = ks.length → bindArgs (PySem.W.fnOf x x (defArgs st) (defBody st) (defScope st) .none kV doc pm an cdv ct) ⟨us, ks.zip ws⟩ = pure (ps.zip (permV perm Value.none us ws)))
    (hn : LenOk den ps.length) (hb : BodyOk Γ c.N body den) : FnKAt P w K mg base (k + 1) x den n ks perm := by
  obtain ⟨f, fd, a, F⟩ := A
  refine ⟨f, fd, ps, def_ok F S hc ho E chk hn hb, PySem.W.mg_of X G a, F.kp, ?_, hn⟩
  obtain ⟨oc, od, kV, doc, pm, an, cdv, ct, osl, rfl, lk, hcd⟩ := F.ex
  exact fun s us ws _ h1 h2 => .of_eq (hbind kV doc pm an cdv ct us ws h1 h2)
/-- a pair of ints of the module -/
theorem gl_pair {a : Addr} {i j : Int} {t u : Tok} {n : Nat} {osl : Array (Option Value)} {g : Nat} (hx : c.glm[g]? = some x) (X : K.In h0) (G : h0.Ns mainGlobals mg) (ha : PySem.W.nsIn K mainGlobals x = some (some (.ref a))) (l : K.lookup a = some ⟨.type "tuple", none, .seq #[.int i t, .int j u] n, osl⟩) :
    ∃ x u v, c.glm[g]? = some x ∧ mg x = some u ∧ RelV v u ∧ ∀ H ρ M, RD K H ρ M (.tup [.int i, .int j]) v :=
  ⟨x, .ref a, .ref a, hx, PySem.W.mg_of X G ha, rfl, fun H ρ M => .tup (vs := [.int i, .int j]) (.inr ⟨_, _, n, l, rfl, rfl, rfl, by rw [sz]; exact (show 2 ≤ 16777216 by decide), .cons ⟨t, rfl⟩ (.cons ⟨u, rfl⟩ .nil)⟩) (.cons (.int i) (.cons (.int j) .nil))⟩
/-- the law itself -/
theorem law_step {fa : Addr} {den : List D → Hm → Res D} (A : DefAt K "law" st) (X : K.In h0) (G : h0.Ns mainGlobals mg) (hfa : mg "law" = some (.ref fa)) (S : FnScope c.N ["script"] (defScope st)) (hc : c.names = (defScope st).names) (ho : c.own = none ∧ c.rp = false)
    (E : ∀ base : Heap, EnvOk P w K mg base k c Γ) (chk : chkB body c (defBody st) = true)
    (hbind : ∀ (kV doc pm : Value) (an : Option Addr) (cdv ct : Value) (u : Value), bindArgs (PySem.W.fnOf "law" "law" (defArgs st) (defBody st) (defScope st) .none kV doc pm an cdv ct) ⟨[u], []⟩ = pure [(("script" : Str), u)])
    (hn : LenOk den 1) (hb : BodyOk Γ c.N body den) :
    ∃ fd : FuncData, (∀ (s : Shared) (u : Value), BindsTo s fd ⟨[u], []⟩ [("script", u)]) ∧ ∀ base : Heap, K.In base → base.Ns mainGlobals mg → FnOk P w K mg base (L2.CX P w) (k + 1) fa fd ["script"] (spD K 1 den) := by
  obtain ⟨f, fd, a, F⟩ := A
  have e := hfa.symm.trans (PySem.W.mg_of X G a)
  cases e
  refine ⟨fd, fun s u => ?_, fun base _ _ => def_ok F S hc ho (E base) chk hn hb⟩
  obtain ⟨oc, od, kV, doc, pm, an, cdv, ct, osl, rfl, lk, hcd⟩ := F.ex
  exact .of_eq (hbind kV doc pm an cdv ct u)
end
theorem law_walk {l : PySem.W.OpenLaw} {q : Program} {loose : List Str} {XP : (Str → Option Value) → Heap → Prop} {YP : World → Heap → Prop} {d : DefRec} {K : Params → PySem.W.Frag} {den : List D → Hm → Res D} {k : Nat} (hn : l.most = some 63) (hdf : d.params.defaults = []) (hr : Room k callerA)
    (hY : ∀ (w : World) (h : Heap), YP w h → (K w.params).In h) (hden : ∀ zs : List Int, zs.length ≤ 63 → ∃ h', den [.lst (zs.map .int)] [] = .ok (.bl true) h')
    (F : ∀ (w : World) (mg : Str → Option Value) (fa : Addr) (h : Heap), (K w.params).In h → h.Ns mainGlobals mg → mg d.name = some (.ref fa) →
      ∃ fd : FuncData, (∀ (s : Shared) (u : Value), BindsTo s fd ⟨[u], []⟩ [("script", u)]) ∧ ∀ base : Heap, (K w.params).In base → base.Ns mainGlobals mg → FnOk l.prog w (K w.params) mg base (L2.CX l.prog w) k fa fd ["script"] (spD (K w.params) 1 den)) :
    PySem.W.WalkO q loose XP YP l.row.toRowW d [] (fun f vs => PySem.call f vs) :=
  L2.walk_of (n := 63) (k := k) (x := "script") (CX := fun w => L2.CX l.prog w) (sp := fun w => spD (K w.params) 1 den) hn (by decide) hdf hr hY F (fun _ _ a ns hl _ hS => law_sp hS (hden ns hl)) fun _ _ _ _ _ z => by
    obtain ⟨_, _, _, _, _, _, _, _, _, _, _, _, z⟩ := z
    exact z.elim
theorem all_cons {p : Str → Prop} {x : Str} {l : List Str} (h : p x) (hl : ∀ y ∈ l, p y) : ∀ y ∈ x :: l, p y := fun y hy => by
  rcases List.mem_cons.mp hy with e | e
  · rw [e]; exact h
  · exact hl y e
theorem bi_of {K : PySem.W.Frag} (h0 : PySem.W.nsIn K mainGlobals "len" = some none) (h1 : PySem.W.nsIn K mainGlobals "abs" = some none) (h2 : PySem.W.nsIn K mainGlobals "int" = some none) (h3 : PySem.W.nsIn K mainGlobals "tuple" = some none) (h4 : PySem.W.nsIn K mainGlobals "list" = some none) (h5 : PySem.W.nsIn K mainGlobals "all" = some none) (h6 : PySem.W.nsIn K mainGlobals "any" = some none) (h7 : PySem.W.nsIn K mainGlobals "sum" = some none) (h8 : PySem.W.nsIn K mainGlobals "max" = some none) (h9 : PySem.W.nsIn K mainGlobals "min" = some none) (h10 : PySem.W.nsIn K mainGlobals "str" = some none) (h11 : PySem.W.nsIn K mainGlobals "bool" = some none) (h12 : PySem.W.nsIn K mainGlobals "isinstance" = some none) (h13 : PySem.W.nsIn K mainGlobals "range" = some none) (h14 : PySem.W.nsIn K mainGlobals "sorted" = some none) (h15 : PySem.W.nsIn K mainGlobals "reversed" = some none) (h16 : PySem.W.nsIn K mainGlobals "enumerate" = some none) (h17 : PySem.W.nsIn K mainGlobals "zip" = some none) (h18 : PySem.W.nsIn K mainGlobals "set" = some none) (h19 : PySem.W.nsIn K mainGlobals "repr" = some none) : ∀ x ∈ bNames, PySem.W.nsIn K mainGlobals x = some none := (all_cons h0 (all_cons h1 (all_cons h2 (all_cons h3 (all_cons h4 (all_cons h5 (all_cons h6 (all_cons h7 (all_cons h8 (all_cons h9 (all_cons h10 (all_cons h11 (all_cons h12 (all_cons h13 (all_cons h14 (all_cons h15 (all_cons h16 (all_cons h17 (all_cons h18 (all_cons h19 (fun x hx => absurd hx (by simp))))))))))))))))))))))

/-! Mini 19: reading forward. -/

def callG (Γ : Gam) (f : Nat) (ds : List D) (h : Hm) : Res D := match Γ.fn f with
  | some den => den ds h
  | none => .stuck
def globG (Γ : Gam) (g : Nat) (h : Hm) : Res D := match Γ.gl g with
  | some d => .ok d h
  | none => .stuck
def negR : D → Hm → Res D := fun x h => match x with
  | .int i => .ok (.int (-i)) h
  | _ => .stuck
def notR : D → Hm → Res D := fun x h => match x with
  | .bl c => .ok (.bl (!c)) h
  | _ => .stuck
def chR (t : Bool) (k : Hm → Res Bool) (h : Hm) : Res Bool := match t with
  | true => k h
  | false => .ok false h
def coR (t : Bool) (k : Hm → Res Bool) (h : Hm) : Res Bool := match t with
  | true => .ok true h
  | false => k h
def andR (x : D) (k : Hm → Res D) (h : Hm) : Res D := match x with
  | .bl true => k h
  | .bl false => .ok (.bl false) h
  | _ => .stuck
def orR (x : D) (k : Hm → Res D) (h : Hm) : Res D := match x with
  | .bl true => .ok (.bl true) h
  | .bl false => k h
  | _ => .stuck
def ifR {α : Type} (t : Bool) (a b : Hm → Res α) (h : Hm) : Res α := match t with
  | true => a h
  | false => b h
def optR : D → Hm → Res (Option Int) := fun x h => match x with
  | .int i => .ok (some i) h
  | _ => .stuck
def rng1R : D → Hm → Res (List D) := fun x h => match x with
  | .int j => .guard (smallI j) (.ok (rngD 0 j.toNat) h)
  | _ => .stuck
def rng2R (x y : D) (h : Hm) : Res (List D) := match x, y with
  | .int i, .int j => .ok (rngD i (j - i).toNat) h
  | _, _ => .stuck
def enmTR : D → Hm → Res (List D) := fun x h => match x with
  | .tup xs => .ok (enumD 0 xs) h
  | _ => .stuck
def zpR (x y : D) (h : Hm) : Res (List D) := match x, y with
  | .lst xs, .lst ys => .ok (zipD xs ys) h
  | .tup xs, .tup ys => .ok (zipD xs ys) h
  | _, _ => .stuck
noncomputable def compR (Γ : Gam) (mu : Bool) (own : List (Str × Nat)) (tg : Tg) (cond : Exs) (elt : Ex) (σ : Sg) (src : List D) (h1 : Hm) : Res D :=
  (compLoop (stepC Γ own tg cond elt σ) h1.length src (h1 ++ [.lst []])).bind fun _ h2 => match listOf? h2 h1.length with
    | some ys => match mu with
      | true => .ok (.ref h1.length) h2
      | false => .ok (.lst ys) (endC h1 h2 ys)
    | none => .stuck
theorem bind_assoc {α β γ : Type} (r : Res α) (f : α → Hm → Res β) (g : β → Hm → Res γ) : (r.bind f).bind g = r.bind fun a h => (f a h).bind g := by cases r <;> rfl
theorem guard_bind {α β : Type} (b : Bool) (r : Res α) (f : α → Hm → Res β) : (Res.guard b r).bind f = Res.guard b (r.bind f) := by cases b <;> rfl
theorem guard_wp_iff {α : Type} (b : Bool) (r : Res α) (Q : α → Hm → Prop) : (Res.guard b r).wp Q = (b = true ∧ r.wp Q) := by
  cases b with
  | true => simp
  | false => simp
theorem bind_wp_iff {α β : Type} (r : Res α) (f : α → Hm → Res β) (Q : β → Hm → Prop) : (r.bind f).wp Q = r.wp fun a h => (f a h).wp Q := by cases r <;> rfl
theorem negR_int (i : Int) (h : Hm) : negR (.int i) h = .ok (.int (-i)) h := rfl
theorem notR_bl (c : Bool) (h : Hm) : notR (.bl c) h = .ok (.bl (!c)) h := rfl
theorem chR_t (k : Hm → Res Bool) (h : Hm) : chR true k h = k h := rfl
theorem chR_f (k : Hm → Res Bool) (h : Hm) : chR false k h = .ok false h := rfl
theorem coR_t (k : Hm → Res Bool) (h : Hm) : coR true k h = .ok true h := rfl
theorem coR_f (k : Hm → Res Bool) (h : Hm) : coR false k h = k h := rfl
theorem chR_ok (t u : Bool) (h : Hm) : chR t (fun h1 => .ok u h1) h = .ok (t && u) h := by cases t <;> rfl
theorem coR_ok (t u : Bool) (h : Hm) : coR t (fun h1 => .ok u h1) h = .ok (t || u) h := by cases t <;> rfl
theorem andR_t (k : Hm → Res D) (h : Hm) : andR (.bl true) k h = k h := rfl
theorem andR_f (k : Hm → Res D) (h : Hm) : andR (.bl false) k h = .ok (.bl false) h := rfl
theorem andR_ok (t u : Bool) (h : Hm) : andR (.bl t) (fun h1 => .ok (.bl u) h1) h = .ok (.bl (t && u)) h := by cases t <;> rfl
theorem orR_t (k : Hm → Res D) (h : Hm) : orR (.bl true) k h = .ok (.bl true) h := rfl
theorem orR_f (k : Hm → Res D) (h : Hm) : orR (.bl false) k h = k h := rfl
theorem orR_ok (t u : Bool) (h : Hm) : orR (.bl t) (fun h1 => .ok (.bl u) h1) h = .ok (.bl (t || u)) h := by cases t <;> rfl
theorem ifR_t {α : Type} (a b : Hm → Res α) (h : Hm) : ifR true a b h = a h := rfl
theorem ifR_f {α : Type} (a b : Hm → Res α) (h : Hm) : ifR false a b h = b h := rfl
theorem ifR_ok {α : Type} (t : Bool) (a b : α) (h : Hm) : ifR t (fun h1 => .ok a h1) (fun h1 => .ok b h1) h = .ok (if t then a else b) h := by cases t <;> rfl
theorem optR_int (i : Int) (h : Hm) : optR (.int i) h = .ok (some i) h := rfl
theorem rng1R_int (j : Int) (h : Hm) : rng1R (.int j) h = .guard (smallI j) (.ok (rngD 0 j.toNat) h) := (Eq.refl _).trans (Eq.refl _)
theorem rng2R_int (i j : Int) (h : Hm) : rng2R (.int i) (.int j) h = .ok (rngD i (j - i).toNat) h := (Eq.refl _).trans (Eq.refl _)
theorem enmTR_tup (xs : List D) (h : Hm) : enmTR (.tup xs) h = .ok (enumD 0 xs) h := rfl
theorem zpR_tup (xs ys : List D) (h : Hm) : zpR (.tup xs) (.tup ys) h = .ok (zipD xs ys) h := rfl
theorem zpR_lst (xs ys : List D) (h : Hm) : zpR (.lst xs) (.lst ys) h = .ok (zipD xs ys) h := rfl
theorem itSD_str (x : Str) (h : Hm) : itSD (.str x) h = .ok (signsD x) h := rfl
theorem revD_tup (xs : List D) (h : Hm) : revD (.tup xs) h = .ok (.tup xs.reverse) h := rfl
theorem revD_lst (xs : List D) (h : Hm) : revD (.lst xs) h = .ok (.lst xs.reverse) h := rfl
theorem cutD_tup (xs : List D) (lo hi : Option Int) (h : Hm) : cutD (.tup xs) lo hi h = .ok (.tup (cutL xs lo hi)) h := rfl
theorem cutD_lst (xs : List D) (lo hi : Option Int) (h : Hm) : cutD (.lst xs) lo hi h = .ok (.lst (cutL xs lo hi)) h := rfl
theorem cutD_str (x : Str) (lo hi : Option Int) (h : Hm) : cutD (.str x) lo hi h = .guard (decide (x.length ≤ LIM)) (.ok (.str (cutS x lo hi)) h) := (Eq.refl _).trans (Eq.refl _)
theorem rngsD_int (l : Bool) (i j : Int) (h : Hm) : rngsD l (.int i) (.int j) h = .guard (rgOkB i j) (.ok (if l then .lst (rngD i (j - i).toNat) else .tup (rngD i (j - i).toNat)) h) := (Eq.refl _).trans (Eq.refl _)
theorem isDictD_dict (ks : List Str) (ds : List D) (h : Hm) : isDictD h (.dict ks ds) = true := rfl
theorem isDictD_ref {n : Nat} {h : Hm} {kd : List Str × List D} (e : dicOf? h n = some kd) : isDictD h (.ref n) = true := by
  show (dicOf? h n).isSome = true
  rw [e] <;> rfl
theorem dgetD_ref {n : Nat} {h : Hm} {kd : List Str × List D} (e : dicOf? h n = some kd) (x : Str) (z : D) : dgetD (.ref n) (.str x) z h = .ok ((lookD kd.1 kd.2 x).getD z) h := by
  show (match dicOf? h n with
    | some kd => Res.ok ((lookD kd.1 kd.2 x).getD z) h
    | none => .stuck) = _
  rw [e]
theorem dgetD_dict (ks : List Str) (ds : List D) (x : Str) (z : D) (h : Hm) : dgetD (.dict ks ds) (.str x) z h = .ok ((lookD ks ds x).getD z) h := rfl
theorem cm_in (a b : D) (h : Hm) : cmpD .isin a b h = inD a b h := by cases a <;> rfl
theorem cm_notin (a b : D) (h : Hm) : cmpD .notin a b h = (inD a b h).bind fun c h => .ok (!c) h := by cases a <;> rfl
theorem cm_ltS (x y : Str) (h : Hm) : cmpD .lt (.str x) (.str y) h = .ok (decide (x.cps.toList < y.cps.toList)) h := rfl
theorem cm_leS (x y : Str) (h : Hm) : cmpD .le (.str x) (.str y) h = .ok (!decide (y.cps.toList < x.cps.toList)) h := rfl
theorem in_dict (ks : List Str) (ds : List D) (x : Str) (h : Hm) : inD (.str x) (.dict ks ds) h = .ok (lookD ks ds x).isSome h := rfl
theorem in_tup {a : D} (f : flatD a = true) (ys : List D) (h : Hm) : inD a (.tup ys) h = .guard (flatD a && ys.all flatD) (.ok (ys.any fun y => eqFD y a) h) := by
  show (match flatD a with | true => Res.guard (flatD a && ys.all flatD) (Res.ok (ys.any fun y => eqFD y a) h) | false => inDat a (.tup ys) h) = _
  rw [f]
theorem in_lst {a : D} (f : flatD a = true) (ys : List D) (h : Hm) : inD a (.lst ys) h = .guard (flatD a && ys.all flatD) (.ok (ys.any fun y => eqFD y a) h) := by
  show (match flatD a with | true => Res.guard (flatD a && ys.all flatD) (Res.ok (ys.any fun y => eqFD y a) h) | false => inDat a (.lst ys) h) = _
  rw [f]
theorem in_dat {a : D} (f : flatD a = false) (ys : List D) (h : Hm) : inD a (.tup ys) h = inDat a (.tup ys) h := by
  show (match flatD a with | true => Res.guard (flatD a && ys.all flatD) (Res.ok (ys.any fun y => eqFD y a) h) | false => inDat a (.tup ys) h) = _
  rw [f]
theorem e_v {Γ : Gam} {i : Nat} {σ : Sg} {h : Hm} : evE Γ (.v i) σ h = match σ[i]? with | some (some d) => .ok d h | _ => .stuck := (Eq.refl _).trans (Eq.refl _)
theorem e_non {Γ : Gam}  {σ : Sg} {h : Hm} : evE Γ .non σ h = .ok .non h := (Eq.refl _).trans (Eq.refl _)
theorem e_bl {Γ : Gam} {b : Bool} {σ : Sg} {h : Hm} : evE Γ (.bl b) σ h = .ok (.bl b) h := (Eq.refl _).trans (Eq.refl _)
theorem e_int {Γ : Gam} {b : Int} {σ : Sg} {h : Hm} : evE Γ (.int b) σ h = .ok (.int b) h := (Eq.refl _).trans (Eq.refl _)
theorem e_str {Γ : Gam} {b : Str} {σ : Sg} {h : Hm} : evE Γ (.str b) σ h = .ok (.str b) h := (Eq.refl _).trans (Eq.refl _)
theorem e_glob {Γ : Gam} {g : Nat} {σ : Sg} {h : Hm} : evE Γ (.glob g) σ h = globG Γ g h := (Eq.refl _).trans (Eq.refl _)
theorem e_op2 {Γ : Gam} {o : Op2} {a b : Ex} {σ : Sg} {h : Hm} : evE Γ (.op2 o a b) σ h = (evE Γ a σ h).bind fun x h1 => (evE Γ b σ h1).bind fun y h2 => opD o x y h2 := (Eq.refl _).trans (Eq.refl _)
theorem e_neg {Γ : Gam} {a : Ex} {σ : Sg} {h : Hm} : evE Γ (.neg a) σ h = (evE Γ a σ h).bind negR := (Eq.refl _).trans (Eq.refl _)
theorem e_cmp {Γ : Gam} {o : Cm} {a b : Ex} {σ : Sg} {h : Hm} : evE Γ (.cmp o a b) σ h = (evE Γ a σ h).bind fun x h1 => (evE Γ b σ h1).bind fun y h2 => (cmpD o x y h2).bind fun c h3 => .ok (.bl c) h3 := (Eq.refl _).trans (Eq.refl _)
theorem e_chain {Γ : Gam} {o1 o2 : Cm} {a b c : Ex} {σ : Sg} {h : Hm} : evE Γ (.chain o1 o2 a b c) σ h = (evE Γ a σ h).bind fun x h1 => (evE Γ b σ h1).bind fun y h2 => (cmpD o1 x y h2).bind fun t h3 => (chR t (fun h3 => (evE Γ c σ h3).bind fun z h4 => cmpD o2 y z h4) h3).bind fun u h5 => .ok (.bl u) h5 := by
  show (evE Γ a σ h).bind _ = _
  congr 1
  funext x h1
  congr 1
  funext y h2
  congr 1
  funext t h3
  cases t with
  | true =>
    show (evE Γ c σ h3).bind _ = ((evE Γ c σ h3).bind _).bind _
    cases evE Γ c σ h3 <;> rfl
  | false => rfl
theorem e_isN {Γ : Gam} {a : Ex} {σ : Sg} {h : Hm} : evE Γ (.isN a) σ h = (evE Γ a σ h).bind fun x h1 => .ok (.bl (isNonD x)) h1 := (Eq.refl _).trans (Eq.refl _)
theorem e_notN {Γ : Gam} {a : Ex} {σ : Sg} {h : Hm} : evE Γ (.notN a) σ h = (evE Γ a σ h).bind fun x h1 => .ok (.bl (!isNonD x)) h1 := (Eq.refl _).trans (Eq.refl _)
theorem e_band {Γ : Gam} {a b : Ex} {σ : Sg} {h : Hm} : evE Γ (.band a b) σ h = (evE Γ a σ h).bind fun x h1 => andR x (fun h1 => evE Γ b σ h1) h1 := (Eq.refl _).trans (Eq.refl _)
theorem e_bor {Γ : Gam} {a b : Ex} {σ : Sg} {h : Hm} : evE Γ (.bor a b) σ h = (evE Γ a σ h).bind fun x h1 => orR x (fun h1 => evE Γ b σ h1) h1 := (Eq.refl _).trans (Eq.refl _)
theorem e_bnot {Γ : Gam} {a : Ex} {σ : Sg} {h : Hm} : evE Γ (.bnot a) σ h = (evE Γ a σ h).bind notR := (Eq.refl _).trans (Eq.refl _)
theorem e_ifx {Γ : Gam} {c a b : Ex} {σ : Sg} {h : Hm} : evE Γ (.ifx c a b) σ h = (evT Γ c σ h).bind fun t h1 => ifR t (fun h1 => evE Γ a σ h1) (fun h1 => evE Γ b σ h1) h1 := by
  show (evT Γ c σ h).bind _ = _
  first | rfl | (congr 1 <;> first | done | (funext t h1; cases t <;> rfl))
theorem e_tup {Γ : Gam} {es : Exs} {σ : Sg} {h : Hm} : evE Γ (.tup es) σ h = (evEs Γ es σ h).bind fun ds h1 => .guard (decide (ds.length ≤ LIM)) (.ok (.tup ds) h1) := (Eq.refl _).trans (Eq.refl _)
theorem e_lst {Γ : Gam} {es : Exs} {σ : Sg} {h : Hm} : evE Γ (.lst es) σ h = (evEs Γ es σ h).bind fun ds h1 => .guard (decide (ds.length ≤ LIM)) (.ok (.lst ds) h1) := (Eq.refl _).trans (Eq.refl _)
theorem e_lstM {Γ : Gam} {es : Exs} {σ : Sg} {h : Hm} : evE Γ (.lstM es) σ h = (evEs Γ es σ h).bind fun ds h1 => .guard (decide (ds.length ≤ LIM)) (.ok (.ref h1.length) (h1 ++ [.lst ds])) := (Eq.refl _).trans (Eq.refl _)
theorem e_ix {Γ : Gam} {a i : Ex} {σ : Sg} {h : Hm} : evE Γ (.ix a i) σ h = (evE Γ a σ h).bind fun x h1 => (evE Γ i σ h1).bind fun y h2 => ixD x y h2 := (Eq.refl _).trans (Eq.refl _)
theorem e_slice {Γ : Gam} {a : Ex} {lo hi : Eo} {σ : Sg} {h : Hm} : evE Γ (.slice a lo hi) σ h = (evE Γ a σ h).bind fun x h1 => (evO Γ lo σ h1).bind fun l h2 => (evO Γ hi σ h2).bind fun u h3 => cutD x l u h3 := (Eq.refl _).trans (Eq.refl _)
theorem e_rev {Γ : Gam} {a : Ex} {σ : Sg} {h : Hm} : evE Γ (.rev a) σ h = (evE Γ a σ h).bind revD := (Eq.refl _).trans (Eq.refl _)
theorem e_call {Γ : Gam} {f : Nat} {es : Exs} {σ : Sg} {h : Hm} : evE Γ (.call f es) σ h = (evEs Γ es σ h).bind fun ds h1 => callG Γ f ds h1 := (Eq.refl _).trans (Eq.refl _)
theorem e_callk {Γ : Gam} {f : Nat} {es ks : Exs} {p : List Nat} {σ : Sg} {h : Hm} : evE Γ (.callk f es ks p) σ h = (evEs Γ es σ h).bind fun ds h1 => (evEs Γ ks σ h1).bind fun zs h2 => callG Γ f (permV p D.non ds zs) h2 := (Eq.refl _).trans (Eq.refl _)
theorem e_isi {Γ : Gam} {a : Ex} {t : Ty} {σ : Sg} {h : Hm} : evE Γ (.isi a t) σ h = (evE Γ a σ h).bind fun x h1 => .guard (openD h1 x) (.ok (.bl (tyD t x)) h1) := (Eq.refl _).trans (Eq.refl _)
theorem e_isiT {Γ : Gam} {a : Ex} {ts : List Ty} {σ : Sg} {h : Hm} : evE Γ (.isiT a ts) σ h = (evE Γ a σ h).bind fun x h1 => .guard (openD h1 x) (.ok (.bl (ts.any fun t => tyD t x)) h1) := (Eq.refl _).trans (Eq.refl _)
theorem e_bi {Γ : Gam} {b : Bi} {es : Exs} {σ : Sg} {h : Hm} : evE Γ (.bi b es) σ h = (evEs Γ es σ h).bind fun ds h1 => biD b ds h1 := (Eq.refl _).trans (Eq.refl _)
theorem e_meth {Γ : Gam} {m : Mt} {r : Ex} {es : Exs} {σ : Sg} {h : Hm} : evE Γ (.meth m r es) σ h = (evE Γ r σ h).bind fun x h1 => .guard (rcvD m x h1) ((evEs Γ es σ h1).bind fun ds h2 => mtD m x ds h2) := (Eq.refl _).trans (Eq.refl _)
theorem e_lenset {Γ : Gam} {a : Ex} {σ : Sg} {h : Hm} : evE Γ (.lenset a) σ h = (evE Γ a σ h).bind lensetD := (Eq.refl _).trans (Eq.refl _)
theorem e_sortset {Γ : Gam} {a : Ex} {σ : Sg} {h : Hm} : evE Γ (.sortset a) σ h = (evE Γ a σ h).bind sortsetD := (Eq.refl _).trans (Eq.refl _)
theorem e_rngM {Γ : Gam} {a : Ex} {σ : Sg} {h : Hm} : evE Γ (.rngM a) σ h = (evE Γ a σ h).bind rngMD := (Eq.refl _).trans (Eq.refl _)
theorem rngMD_int (j : Int) (h : Hm) : rngMD (.int j) h = .guard (rgOkB 0 j) (.ok (.ref h.length) (h ++ [.lst (rngD 0 j.toNat)])) := (Eq.refl _).trans (Eq.refl _)
theorem e_rngs {Γ : Gam} {l : Bool} {a b : Ex} {σ : Sg} {h : Hm} : evE Γ (.rngs l a b) σ h = (evE Γ a σ h).bind fun x h1 => (evE Γ b σ h1).bind fun y h2 => rngsD l x y h2 := (Eq.refl _).trans (Eq.refl _)
theorem e_dct {Γ : Gam} {kvs : List (Str × Int)} {σ : Sg} {h : Hm} : evE Γ (.dct kvs) σ h = .ok (.dict (kvs.map (·.1)) (kvs.map fun p => .int p.2)) h := (Eq.refl _).trans (Eq.refl _)
theorem e_dget {Γ : Gam} {d k f : Ex} {σ : Sg} {h : Hm} : evE Γ (.dget d k f) σ h = (evE Γ d σ h).bind fun x h1 => .guard (isDictD h1 x) ((evE Γ k σ h1).bind fun y h2 => (evE Γ f σ h2).bind fun z h3 => dgetD x y z h3) := (Eq.refl _).trans (Eq.refl _)
theorem e_dix {Γ : Gam} {d k : Ex} {σ : Sg} {h : Hm} : evE Γ (.dix d k) σ h = (evE Γ d σ h).bind fun x h1 => (evE Γ k σ h1).bind fun y h2 => dixD x y h2 := (Eq.refl _).trans (Eq.refl _)
theorem e_dctM {Γ : Gam} {σ : Sg} {h : Hm} : evE Γ .dctM σ h = .ok (.ref h.length) (h ++ [.dic [] []]) := (Eq.refl _).trans (Eq.refl _)
theorem dixD_dict (ks : List Str) (ds : List D) (x : Str) (h : Hm) : dixD (.dict ks ds) (.str x) h = match lookD ks ds x with | some d => .ok d h | none => .stuck := (Eq.refl _).trans (Eq.refl _)
theorem e_comp {Γ : Gam} {mu : Bool} {own : List (Str × Nat)} {tg : Tg} {it : It} {cond : Exs} {elt : Ex} {σ : Sg} {h : Hm} : evE Γ (.comp mu own tg it cond elt) σ h = (evI Γ it σ h).bind fun src h1 => compR Γ mu own tg cond elt σ src h1 := by
  unfold evE
  rfl
theorem es_nil {Γ : Gam}  {σ : Sg} {h : Hm} : evEs Γ .nil σ h = .ok [] h := (Eq.refl _).trans (Eq.refl _)
theorem es_cons {Γ : Gam} {e : Ex} {es : Exs} {σ : Sg} {h : Hm} : evEs Γ (.cons e es) σ h = (evE Γ e σ h).bind fun x h1 => (evEs Γ es σ h1).bind fun xs h2 => .ok (x :: xs) h2 := (Eq.refl _).trans (Eq.refl _)
theorem t_band {Γ : Gam} {a b : Ex} {σ : Sg} {h : Hm} : evT Γ (.band a b) σ h = (evT Γ a σ h).bind fun t h1 => chR t (fun h1 => evT Γ b σ h1) h1 := by
  show (evT Γ a σ h).bind _ = _
  first | rfl | (congr 1 <;> first | done | (funext t h1; cases t <;> rfl))
theorem t_bor {Γ : Gam} {a b : Ex} {σ : Sg} {h : Hm} : evT Γ (.bor a b) σ h = (evT Γ a σ h).bind fun t h1 => coR t (fun h1 => evT Γ b σ h1) h1 := by
  show (evT Γ a σ h).bind _ = _
  first | rfl | (congr 1 <;> first | done | (funext t h1; cases t <;> rfl))
theorem t_bnot {Γ : Gam} {a : Ex} {σ : Sg} {h : Hm} : evT Γ (.bnot a) σ h = (evT Γ a σ h).bind fun t h1 => .ok (!t) h1 := (Eq.refl _).trans (Eq.refl _)
theorem t_cmp {Γ : Gam} {o : Cm} {a b : Ex} {σ : Sg} {h : Hm} : evT Γ (.cmp o a b) σ h = (evE Γ a σ h).bind fun x h1 => (evE Γ b σ h1).bind fun y h2 => cmpD o x y h2 := (Eq.refl _).trans (Eq.refl _)
theorem t_chain {Γ : Gam} {o1 o2 : Cm} {a b c : Ex} {σ : Sg} {h : Hm} : evT Γ (.chain o1 o2 a b c) σ h = (evE Γ a σ h).bind fun x h1 => (evE Γ b σ h1).bind fun y h2 => (cmpD o1 x y h2).bind fun t h3 => chR t (fun h3 => (evE Γ c σ h3).bind fun z h4 => cmpD o2 y z h4) h3 := by
  show (evE Γ a σ h).bind _ = _
  first | rfl | (congr 1 <;> first | done | (funext x h1; congr 1 <;> first | done | (funext y h2; congr 1 <;> first | done | (funext t h3; cases t <;> rfl))))
theorem t_isN {Γ : Gam} {a : Ex} {σ : Sg} {h : Hm} : evT Γ (.isN a) σ h = (evE Γ a σ h).bind fun x h1 => .ok (isNonD x) h1 := (Eq.refl _).trans (Eq.refl _)
theorem t_notN {Γ : Gam} {a : Ex} {σ : Sg} {h : Hm} : evT Γ (.notN a) σ h = (evE Γ a σ h).bind fun x h1 => .ok (!isNonD x) h1 := (Eq.refl _).trans (Eq.refl _)
theorem t_v {Γ : Gam} {i : Nat} {σ : Sg} {h : Hm} : evT Γ (.v i) σ h = match σ[i]? with | some (some d) => trD d h | _ => .stuck := (Eq.refl _).trans (Eq.refl _)
theorem t_bl {Γ : Gam} {b : Bool} {σ : Sg} {h : Hm} : evT Γ (.bl b) σ h = .ok b h := (Eq.refl _).trans (Eq.refl _)
theorem t_call {Γ : Gam} {f : Nat} {es : Exs} {σ : Sg} {h : Hm} : evT Γ (.call f es) σ h = (evEs Γ es σ h).bind fun ds h1 => (callG Γ f ds h1).bind trD := by
  show (evEs Γ es σ h).bind _ = _
  congr 1
  funext ds h1
  unfold callG
  cases Γ.fn f <;> rfl
theorem t_callk {Γ : Gam} {f : Nat} {es ks : Exs} {p : List Nat} {σ : Sg} {h : Hm} : evT Γ (.callk f es ks p) σ h = (evEs Γ es σ h).bind fun ds h1 => (evEs Γ ks σ h1).bind fun zs h2 => (callG Γ f (permV p D.non ds zs) h2).bind trD := by
  show (evEs Γ es σ h).bind _ = _
  congr 1
  funext ds h1
  congr 1
  funext zs h2
  unfold callG
  cases Γ.fn f <;> rfl
theorem t_isi {Γ : Gam} {a : Ex} {t : Ty} {σ : Sg} {h : Hm} : evT Γ (.isi a t) σ h = (evE Γ a σ h).bind fun x h1 => .guard (openD h1 x) (.ok (tyD t x) h1) := (Eq.refl _).trans (Eq.refl _)
theorem t_isiT {Γ : Gam} {a : Ex} {ts : List Ty} {σ : Sg} {h : Hm} : evT Γ (.isiT a ts) σ h = (evE Γ a σ h).bind fun x h1 => .guard (openD h1 x) (.ok (ts.any fun t => tyD t x) h1) := (Eq.refl _).trans (Eq.refl _)
theorem t_bi {Γ : Gam} {b : Bi} {es : Exs} {σ : Sg} {h : Hm} : evT Γ (.bi b es) σ h = (evEs Γ es σ h).bind fun ds h1 => (biD b ds h1).bind trD := (Eq.refl _).trans (Eq.refl _)
theorem ts_nil {Γ : Gam}  {σ : Sg} {h : Hm} : evTs Γ .nil σ h = .ok true h := (Eq.refl _).trans (Eq.refl _)
theorem ts_one {Γ : Gam} {e : Ex} {σ : Sg} {h : Hm} : evTs Γ (.cons e .nil) σ h = evT Γ e σ h := (Eq.refl _).trans (Eq.refl _)
theorem o_none {Γ : Gam}  {σ : Sg} {h : Hm} : evO Γ .none σ h = .ok none h := (Eq.refl _).trans (Eq.refl _)
theorem o_some {Γ : Gam} {e : Ex} {σ : Sg} {h : Hm} : evO Γ (.some e) σ h = (evE Γ e σ h).bind optR := (Eq.refl _).trans (Eq.refl _)
theorem i_rng1 {Γ : Gam} {a : Ex} {σ : Sg} {h : Hm} : evI Γ (.rng1 a) σ h = (evE Γ a σ h).bind rng1R := (Eq.refl _).trans (Eq.refl _)
theorem i_rng2 {Γ : Gam} {a b : Ex} {σ : Sg} {h : Hm} : evI Γ (.rng2 a b) σ h = (evE Γ a σ h).bind fun x h1 => (evE Γ b σ h1).bind fun y h2 => rng2R x y h2 := (Eq.refl _).trans (Eq.refl _)
theorem i_ex {Γ : Gam} {e : Ex} {σ : Sg} {h : Hm} : evI Γ (.ex e) σ h = (evE Γ e σ h).bind itD := (Eq.refl _).trans (Eq.refl _)
theorem i_rvs {Γ : Gam} {e : Ex} {σ : Sg} {h : Hm} : evI Γ (.rvs e) σ h = (evE Γ e σ h).bind fun x h1 => (itD x h1).bind fun xs h2 => .ok xs.reverse h2 := (Eq.refl _).trans (Eq.refl _)
theorem i_enmT {Γ : Gam} {e : Ex} {σ : Sg} {h : Hm} : evI Γ (.enmT e) σ h = (evE Γ e σ h).bind enmTR := (Eq.refl _).trans (Eq.refl _)
theorem i_sgn {Γ : Gam} {e : Ex} {σ : Sg} {h : Hm} : evI Γ (.sgn e) σ h = (evE Γ e σ h).bind itSD := (Eq.refl _).trans (Eq.refl _)
theorem i_zp {Γ : Gam} {a b : Ex} {σ : Sg} {h : Hm} : evI Γ (.zp a b) σ h = (evE Γ a σ h).bind fun x h1 => (evE Γ b σ h1).bind fun y h2 => zpR x y h2 := (Eq.refl _).trans (Eq.refl _)
theorem e_fnv {Γ : Gam} {j : Nat} {x : Str} {σ : Sg} {h : Hm} : evE Γ (.fnv j x) σ h = match Γ.fn j with | some _ => .ok (.fn j x) h | none => .stuck := (Eq.refl _).trans (Eq.refl _)
theorem e_callv {Γ : Gam} {i : Nat} {ops : List (Nat × Str)} {es : Exs} {σ : Sg} {h : Hm} {j : Nat} {x : Str} (e : σ[i]? = some (some (.fn j x))) : evE Γ (.callv i ops es) σ h = .guard (decide ((j, x) ∈ ops)) ((evEs Γ es σ h).bind fun ds h1 => callG Γ j ds h1) := by
  show (match σ[i]? with | some (some (.fn j x)) => Res.guard (decide ((j, x) ∈ ops)) ((evEs Γ es σ h).bind fun ds h1 => match Γ.fn j with | some den => den ds h1 | none => .stuck) | _ => .stuck) = _
  rw [e]
  rfl
/-! ### statements -/
def Po.seq (Γ : Gam) (b : Blk) (P : Po) : Po := { P with nx := fun σ h => wpB Γ b σ h P }
def KSet (Γ : Gam) (i : Nat) (b : Blk) (σ : Sg) (P : Po) : D → Hm → Prop := fun d h => wpB Γ b (σ.set i (some d)) h P
def KEx (Γ : Gam) (b : Blk) (σ : Sg) (P : Po) : D → Hm → Prop := fun _ h => wpB Γ b σ h P
def KIf (Γ : Gam) (x y b : Blk) (σ : Sg) (P : Po) : Bool → Hm → Prop := fun t h => match t with
  | true => wpB Γ x σ h (P.seq Γ b)
  | false => wpB Γ y σ h (P.seq Γ b)
def KPar (Γ : Gam) (i j : Nat) (e2 : Ex) (b : Blk) (σ : Sg) (P : Po) : D → Hm → Prop := fun x h => (evE Γ e2 σ h).wp fun y h2 => wpB Γ b ((σ.set i (some x)).set j (some y)) h2 P
def KPar2 (Γ : Gam) (i j : Nat) (x : D) (b : Blk) (σ : Sg) (P : Po) : D → Hm → Prop := fun y h2 => wpB Γ b ((σ.set i (some x)).set j (some y)) h2 P
def KTri (Γ : Gam) (i j l : Nat) (e2 e3 : Ex) (b : Blk) (σ : Sg) (P : Po) : D → Hm → Prop := fun x h => (evE Γ e2 σ h).wp fun y h2 => (evE Γ e3 σ h2).wp fun z h3 => wpB Γ b (((σ.set i (some x)).set j (some y)).set l (some z)) h3 P
def KTri2 (Γ : Gam) (i j l : Nat) (x : D) (e3 : Ex) (b : Blk) (σ : Sg) (P : Po) : D → Hm → Prop := fun y h2 => (evE Γ e3 σ h2).wp fun z h3 => wpB Γ b (((σ.set i (some x)).set j (some y)).set l (some z)) h3 P
def KTri3 (Γ : Gam) (i j l : Nat) (x y : D) (b : Blk) (σ : Sg) (P : Po) : D → Hm → Prop := fun z h3 => wpB Γ b (((σ.set i (some x)).set j (some y)).set l (some z)) h3 P
def KAsg (Γ : Gam) (is : List Nat) (b : Blk) (σ : Sg) (P : Po) : D → Hm → Prop := fun d h => match asgD (.tup is) d σ with
  | some σ' => wpB Γ b σ' h P
  | none => False
def KRet (P : Po) : D → Hm → Prop := fun d h => P.rt d h
def wpLoop (Γ : Gam) (tg : Tg) (x : Blk) (xs : List D) (σ : Sg) (h : Hm) (P : Po) : Prop := wpFor (fun x1 σ1 h2 P1 => match asgD tg x1 σ1 with
    | some σ2 => wpB Γ x σ2 h2 P1
    | none => False) xs σ h P
def KFor (Γ : Gam) (tg : Tg) (x b : Blk) (σ : Sg) (P : Po) : List D → Hm → Prop := fun xs h => wpLoop Γ tg x xs σ h (P.seq Γ b)
def KIxV (Γ : Gam) (o i : Ex) (b : Blk) (σ : Sg) (P : Po) : D → Hm → Prop := fun d h1 => (evE Γ o σ h1).wp fun x h2 => (evE Γ i σ h2).wp fun y h3 => match x, y with
    | .ref n, .int k => match listOf? h3 n with
      | some xs => match ixN xs.length k with
        | some j => wpB Γ b σ (h3.set n (.lst (xs.set j d))) P
        | none => False
      | none => False
    | _, _ => False
section
variable {Γ : Gam} {e e2 e3 c o : Ex} {b x y : Blk} {σ : Sg} {h : Hm} {P : Po} {d d2 d3 : D} {i j l : Nat}
theorem b_nil : wpB Γ .nil σ h P = P.nx σ h := (Eq.refl _).trans (Eq.refl _)
theorem seq_nx : (P.seq Γ b).nx σ h = wpB Γ b σ h P := rfl
theorem seq_rt : (P.seq Γ b).rt = P.rt := rfl
theorem seq_bk : (P.seq Γ b).bk = P.bk := rfl
theorem seq_ct : (P.seq Γ b).ct = P.ct := rfl
theorem seq_xe : (P.seq Γ b).xe = P.xe := rfl
/-- within a try -/
def Po.tr (Γ : Gam) (rs : List Str) (hs : List Hd) (b : Blk) (P : Po) : Po := { P.seq Γ b with xe := fun x σ' h' => hdsP rs x σ' h' (P.seq Γ b) hs }
theorem tr_nx {rs : List Str} {hs : List Hd} : (P.tr Γ rs hs b).nx σ h = wpB Γ b σ h P := rfl
theorem tr_rt {rs : List Str} {hs : List Hd} : (P.tr Γ rs hs b).rt = P.rt := rfl
theorem tr_bk {rs : List Str} {hs : List Hd} : (P.tr Γ rs hs b).bk = P.bk := rfl
theorem tr_ct {rs : List Str} {hs : List Hd} : (P.tr Γ rs hs b).ct = P.ct := rfl
theorem tr_xe {rs : List Str} {hs : List Hd} {ex : Exn} : (P.tr Γ rs hs b).xe ex σ h = hdsP rs ex σ h (P.seq Γ b) hs := rfl
theorem hd_yes {rs : List Str} {hs : List Hd} {ex : Exn} {y : Str} (m : ex.cls ∈ rs) (s : subX ex.cls y = true) : hdsP rs ex σ h P (.c y i d :: hs) = P.nx (σ.set i (some d)) h := by
  show (ex.cls ∈ rs ∧ _) = _
  rw [s]
  exact propext ⟨fun z => z.2, fun z => ⟨m, z⟩⟩
theorem hd_no {rs : List Str} {hs : List Hd} {ex : Exn} {y : Str} (m : ex.cls ∈ rs) (s : subX ex.cls y = false) : hdsP rs ex σ h P (.c y i d :: hs) = hdsP rs ex σ h P hs := by
  show (ex.cls ∈ rs ∧ _) = _
  rw [s]
  exact propext ⟨fun z => z.2, fun z => ⟨m, z⟩⟩
theorem b_try {rs : List Str} {hs : List Hd} : wpB Γ (.cons (.try_ rs x hs) b) σ h P = wpB Γ x σ h (P.tr Γ rs hs b) := (Eq.refl _).trans (Eq.refl _)
theorem b_raise {c : Str} : wpB Γ (.cons (.raise c) b) σ h P = P.xe ⟨c, .non⟩ σ h := (Eq.refl _).trans (Eq.refl _)
def KAug (Γ : Gam) (i : Nat) (b : Blk) (σ : Sg) (P : Po) : D → Hm → Prop := fun d h1 => match σ[i]?, d with
    | some (some (.ref n)), .ref m => match listOf? h1 n, listOf? h1 m with
      | some xs, some ys => decide (xs.length + ys.length ≤ LIM) = true ∧ wpB Γ b σ (h1.set n (.lst (xs ++ ys))) P
      | _, _ => False
    | _, _ => False
def KAugI (Γ : Gam) (i : Nat) (b : Blk) (σ : Sg) (P : Po) : D → Hm → Prop := fun d h1 => match σ[i]?, d with
    | some (some (.int x)), .int y => wpB Γ b (σ.set i (some (.int (x + y)))) h1 P
    | _, _ => False
theorem b_augI : wpB Γ (.cons (.augI i e) b) σ h P = (evE Γ e σ h).wp (KAugI Γ i b σ P) := (Eq.refl _).trans (Eq.refl _)
theorem k_augI {y : Int} : (Res.ok (.int y) h).wp (KAugI Γ i b σ P) = (match σ[i]? with
    | some (some (.int x)) => wpB Γ b (σ.set i (some (.int (x + y)))) h P
    | _ => False) := by
  show (match σ[i]?, D.int y with
    | some (some (.int x)), .int y => wpB Γ b (σ.set i (some (.int (x + y)))) h P
    | _, _ => False) = _
  split <;> first | (rename_i e1 e2; cases e2; rw [e1]) | skip
  rename_i hh
  split
  · rename_i x e1
    exact absurd rfl (hh x y e1)
  · rfl
theorem b_aug : wpB Γ (.cons (.aug i e) b) σ h P = (evE Γ e σ h).wp (KAug Γ i b σ P) := (Eq.refl _).trans (Eq.refl _)
theorem k_aug {n m : Nat} {xs ys : List D} (e1 : σ[i]? = some (some (.ref n))) (e2 : listOf? h n = some xs) (e3 : listOf? h m = some ys) (l : xs.length + ys.length ≤ LIM) : (Res.ok (.ref m) h).wp (KAug Γ i b σ P) = wpB Γ b σ (h.set n (.lst (xs ++ ys))) P := by
  show (match σ[i]?, D.ref m with
    | some (some (.ref n)), .ref m => match listOf? h n, listOf? h m with
      | some xs, some ys => decide (xs.length + ys.length ≤ LIM) = true ∧ wpB Γ b σ (h.set n (.lst (xs ++ ys))) P
      | _, _ => False
    | _, _ => False) = _
  rw [e1]
  show (match listOf? h n, listOf? h m with
      | some xs, some ys => decide (xs.length + ys.length ≤ LIM) = true ∧ wpB Γ b σ (h.set n (.lst (xs ++ ys))) P
      | _, _ => False) = _
  rw [e2, e3]
  exact propext ⟨fun z => z.2, fun z => ⟨decide_eq_true l, z⟩⟩
def XeK (P : Po) (σ : Sg) : Exn → Hm → Prop := fun x h => P.xe x σ h
theorem xek {ex : Exn} {h2 : Hm} : XeK P σ ex h2 = P.xe ex σ h2 := rfl
theorem b_setX : wpB Γ (.cons (.setX i e) b) σ h P = evX Γ e σ h (KSet Γ i b σ P) (XeK P σ) := (Eq.refl _).trans (Eq.refl _)
theorem b_exX : wpB Γ (.cons (.exX e) b) σ h P = evX Γ e σ h (KEx Γ b σ P) (XeK P σ) := (Eq.refl _).trans (Eq.refl _)
theorem b_retX : wpB Γ (.cons (.retX e) b) σ h P = evX Γ e σ h (KRet P) (XeK P σ) := (Eq.refl _).trans (Eq.refl _)
theorem k_setX {E : Exn → Hm → Prop} : (Res.ok d h).wpx (KSet Γ i b σ P) E = wpB Γ b (σ.set i (some d)) h P := (Eq.refl _).trans (Eq.refl _)
theorem k_exX {E : Exn → Hm → Prop} : (Res.ok d h).wpx (KEx Γ b σ P) E = wpB Γ b σ h P := (Eq.refl _).trans (Eq.refl _)
theorem k_retX {E : Exn → Hm → Prop} : (Res.ok d h).wpx (KRet P) E = P.rt d h := (Eq.refl _).trans (Eq.refl _)
theorem k_err {α : Type} {ex : Exn} {Q : α → Hm → Prop} : (Res.err ex h : Res α).wpx Q (XeK P σ) = P.xe ex σ h := rfl
def IsK (Q : D → Hm → Prop) : D → Hm → Prop := fun x h => Q (.bl (isNonD x)) h
theorem x_isN {Q : D → Hm → Prop} {E : Exn → Hm → Prop} : evX Γ (.isN e) σ h Q E = evX Γ e σ h (IsK Q) E := (Eq.refl _).trans (Eq.refl _)
theorem k_isN {Q : D → Hm → Prop} {E : Exn → Hm → Prop} : (Res.ok d h).wpx (IsK Q) E = (Res.ok (.bl (isNonD d)) h).wpx Q E := (Eq.refl _).trans (Eq.refl _)
theorem callG_x {f : Nat} {ds : List D} {Q : D → Hm → Prop} {E : Exn → Hm → Prop} : (match Γ.fn f with
    | some den => (den ds h).wpx Q E
    | none => False) = (callG Γ f ds h).wpx Q E := by
  unfold callG
  cases Γ.fn f <;> rfl
def AgK (Γ : Gam) (f : Nat) (Q : D → Hm → Prop) (E : Exn → Hm → Prop) : List D → Hm → Prop := fun ds h => (callG Γ f ds h).wpx Q E
def AkK (Γ : Gam) (f : Nat) (kes : Exs) (perm : List Nat) (σ : Sg) (Q : D → Hm → Prop) (E : Exn → Hm → Prop) : List D → Hm → Prop := fun ds h => (evEs Γ kes σ h).wp fun ks h2 => (callG Γ f (permV perm D.non ds ks) h2).wpx Q E
def AjK (Γ : Gam) (f : Nat) (perm : List Nat) (ds : List D) (Q : D → Hm → Prop) (E : Exn → Hm → Prop) : List D → Hm → Prop := fun ks h2 => (callG Γ f (permV perm D.non ds ks) h2).wpx Q E
theorem x_call {f : Nat} {es : Exs} {Q : D → Hm → Prop} {E : Exn → Hm → Prop} : evX Γ (.call f es) σ h Q E = (evEs Γ es σ h).wp (AgK Γ f Q E) := by
  show (evEs Γ es σ h).wp _ = _
  congr 1
  funext ds h1
  exact callG_x
theorem x_callk {f : Nat} {es kes : Exs} {perm : List Nat} {Q : D → Hm → Prop} {E : Exn → Hm → Prop} : evX Γ (.callk f es kes perm) σ h Q E = (evEs Γ es σ h).wp (AkK Γ f kes perm σ Q E) := by
  show (evEs Γ es σ h).wp _ = _
  congr 1
  funext ds h1
  show (evEs Γ kes σ h1).wp _ = (evEs Γ kes σ h1).wp _
  congr 1
  funext ks h2
  exact callG_x
theorem k_ag {f : Nat} {ds : List D} {Q : D → Hm → Prop} {E : Exn → Hm → Prop} : (Res.ok ds h).wp (AgK Γ f Q E) = (callG Γ f ds h).wpx Q E := (Eq.refl _).trans (Eq.refl _)
theorem k_ak {f : Nat} {ds : List D} {kes : Exs} {perm : List Nat} {Q : D → Hm → Prop} {E : Exn → Hm → Prop} : (Res.ok ds h).wp (AkK Γ f kes perm σ Q E) = (evEs Γ kes σ h).wp (AjK Γ f perm ds Q E) := (Eq.refl _).trans (Eq.refl _)
theorem k_aj {f : Nat} {ds ks : List D} {perm : List Nat} {Q : D → Hm → Prop} {E : Exn → Hm → Prop} : (Res.ok ks h).wp (AjK Γ f perm ds Q E) = (callG Γ f (permV perm D.non ds ks) h).wpx Q E := (Eq.refl _).trans (Eq.refl _)
theorem b_set : wpB Γ (.cons (.set i e) b) σ h P = (evE Γ e σ h).wp (KSet Γ i b σ P) := (Eq.refl _).trans (Eq.refl _)
theorem k_set : (Res.ok d h).wp (KSet Γ i b σ P) = wpB Γ b (σ.set i (some d)) h P := (Eq.refl _).trans (Eq.refl _)
theorem b_ex : wpB Γ (.cons (.ex e) b) σ h P = (evE Γ e σ h).wp (KEx Γ b σ P) := (Eq.refl _).trans (Eq.refl _)
theorem k_ex : (Res.ok d h).wp (KEx Γ b σ P) = wpB Γ b σ h P := (Eq.refl _).trans (Eq.refl _)
theorem b_ret : wpB Γ (.cons (.ret e) b) σ h P = (evE Γ e σ h).wp (KRet P) := (Eq.refl _).trans (Eq.refl _)
theorem k_ret : (Res.ok d h).wp (KRet P) = P.rt d h := (Eq.refl _).trans (Eq.refl _)
theorem b_ife : wpB Γ (.cons (.ife c x y) b) σ h P = (evT Γ c σ h).wp (KIf Γ x y b σ P) := by
  show (evT Γ c σ h).wp _ = (evT Γ c σ h).wp _
  first | rfl | (congr 1 <;> first | done | (funext t h1; cases t <;> rfl))
theorem k_ifT : (Res.ok true h).wp (KIf Γ x y b σ P) = wpB Γ x σ h (P.seq Γ b) := (Eq.refl _).trans (Eq.refl _)
theorem k_ifF : (Res.ok false h).wp (KIf Γ x y b σ P) = wpB Γ y σ h (P.seq Γ b) := (Eq.refl _).trans (Eq.refl _)
theorem b_par : wpB Γ (.cons (.par i j e e2) b) σ h P = (evE Γ e σ h).wp (KPar Γ i j e2 b σ P) := (Eq.refl _).trans (Eq.refl _)
theorem k_par : (Res.ok d h).wp (KPar Γ i j e2 b σ P) = (evE Γ e2 σ h).wp (KPar2 Γ i j d b σ P) := (Eq.refl _).trans (Eq.refl _)
theorem k_par2 : (Res.ok d2 h).wp (KPar2 Γ i j d b σ P) = wpB Γ b ((σ.set i (some d)).set j (some d2)) h P := (Eq.refl _).trans (Eq.refl _)
theorem b_tri : wpB Γ (.cons (.par3 i j l e e2 e3) b) σ h P = (evE Γ e σ h).wp (KTri Γ i j l e2 e3 b σ P) := (Eq.refl _).trans (Eq.refl _)
theorem k_tri : (Res.ok d h).wp (KTri Γ i j l e2 e3 b σ P) = (evE Γ e2 σ h).wp (KTri2 Γ i j l d e3 b σ P) := (Eq.refl _).trans (Eq.refl _)
theorem k_tri2 : (Res.ok d2 h).wp (KTri2 Γ i j l d e3 b σ P) = (evE Γ e3 σ h).wp (KTri3 Γ i j l d d2 b σ P) := (Eq.refl _).trans (Eq.refl _)
theorem k_tri3 : (Res.ok d3 h).wp (KTri3 Γ i j l d d2 b σ P) = wpB Γ b (((σ.set i (some d)).set j (some d2)).set l (some d3)) h P := (Eq.refl _).trans (Eq.refl _)
theorem b_asg {is : List Nat} : wpB Γ (.cons (.asg is e) b) σ h P = (evE Γ e σ h).wp (KAsg Γ is b σ P) := by
  show (evE Γ e σ h).wp _ = (evE Γ e σ h).wp _
  congr 1
theorem k_asg {is : List Nat} : (Res.ok d h).wp (KAsg Γ is b σ P) = match asgD (.tup is) d σ with
  | some σ' => wpB Γ b σ' h P
  | none => False := rfl
theorem b_for {tg : Tg} {it : It} : wpB Γ (.cons (.for_ tg it x) b) σ h P = (evI Γ it σ h).wp (KFor Γ tg x b σ P) := (Eq.refl _).trans (Eq.refl _)
theorem b_setix : wpB Γ (.cons (.setix o e e2) b) σ h P = (evE Γ e2 σ h).wp (KIxV Γ o e b σ P) := (Eq.refl _).trans (Eq.refl _)
theorem L_dput {oo ii : Ex} {d : D} {n : Nat} {z : Str} {kd : List Str × List D} (e1 : evE Γ e σ h = .ok d h) (e2 : evE Γ oo σ h = .ok (.ref n) h) (e3 : evE Γ ii σ h = .ok (.str z) h) (e4 : dicOf? h n = some kd) (l : kd.1.length < LIM)
    (q : wpB Γ b σ (h.set n (.dic (putKs kd.1 z) (putVs kd.1 kd.2 z d))) P) : wpB Γ (.cons (.dput oo ii e) b) σ h P := by
  show (evE Γ e σ h).wp _
  rw [e1]
  show (evE Γ oo σ h).wp _
  rw [e2]
  show (evE Γ ii σ h).wp _
  rw [e3]
  show (match dicOf? h n with
    | some kd => decide (kd.1.length < LIM) = true ∧ (P.seq Γ b).nx σ (h.set n (.dic (putKs kd.1 z) (putVs kd.1 kd.2 z d)))
    | none => False)
  rw [e4]
  exact ⟨decide_eq_true l, q⟩
theorem b_pass : wpB Γ (.cons .pass b) σ h P = wpB Γ b σ h P := (Eq.refl _).trans (Eq.refl _)
theorem b_never : wpB Γ (.cons .never b) σ h P = False := (Eq.refl _).trans (Eq.refl _)
theorem b_brk : wpB Γ (.cons .brk b) σ h P = P.bk σ h := (Eq.refl _).trans (Eq.refl _)
theorem b_cont : wpB Γ (.cons .cont b) σ h P = P.ct σ h := (Eq.refl _).trans (Eq.refl _)
/-- for: by an invariant -/
theorem L_for {tg : Tg} {xs : List D} (I : Nat → Sg → Hm → Prop) (h0 : I 0 σ h)
    (st : ∀ i x1 σ h, xs[i]? = some x1 → I i σ h → ∃ σ2, asgD tg x1 σ = some σ2 ∧ wpB Γ x σ2 h { nx := I (i + 1), ct := I (i + 1), bk := fun σ' h' => wpB Γ b σ' h' P, rt := P.rt, xe := P.xe })
    (fin : ∀ σ h, I xs.length σ h → wpB Γ b σ h P) : (Res.ok xs h).wp (KFor Γ tg x b σ P) := by
  have key : ∀ n i σ h, i + n = xs.length → I i σ h → wpLoop Γ tg x (xs.drop i) σ h (P.seq Γ b) := by
    intro n
    induction n with
    | zero =>
      intro i σ h e z
      have e : i = xs.length := by omega
      subst e
      rw [List.drop_length]
      exact fin _ _ z
    | succ n ih =>
      intro i σ h e z
      have hl : i < xs.length := by omega
      rw [List.drop_eq_getElem_cons hl]
      obtain ⟨σ2, a1, a2⟩ := st i _ σ h (List.getElem?_eq_getElem hl) z
      unfold wpLoop wpFor
      rw [a1]
      refine wpB_mono Γ x _ _ _ _ ?_ a2
      exact ⟨fun σ h z => ih (i + 1) σ h (by omega) z, fun _ _ z => z, fun _ _ z => z, fun σ h z => ih (i + 1) σ h (by omega) z, fun _ _ _ z => z⟩
  have := key xs.length 0 σ h (by omega) h0
  rwa [List.drop_zero] at this
/-- while: by an invariant -/
theorem L_while (I : Nat → Sg → Hm → Prop) {m : Nat} (h0 : I m σ h)
    (st : ∀ m σ h, I m σ h → (evT Γ c σ h).wp fun t h1 => (t = true → wpB Γ x σ h1 { nx := fun σ' h' => ∃ m', m' < m ∧ I m' σ' h', ct := fun σ' h' => ∃ m', m' < m ∧ I m' σ' h', bk := fun σ' h' => wpB Γ b σ' h' P, rt := P.rt, xe := P.xe }) ∧ (t = false → wpB Γ b σ h1 P)) : wpB Γ (.cons (.while_ c x) b) σ h P :=
  while_inv (P := { P with nx := fun σ' h' => wpB Γ b σ' h' P }) I h0 fun m σ h i => Res.wp_mono (st m σ h i) fun t h1 z => by
    cases t with
    | true => exact z.1 rfl
    | false => exact z.2 rfl
end
/-- a call, by what is known of it -/
theorem wp_call {α : Type} {r : Res D} {k : D → Hm → Res α} {Q : α → Hm → Prop} {Post : D → Hm → Prop} (S : ∃ d h, r = .ok d h ∧ Post d h) (c : ∀ d h, Post d h → (k d h).wp Q) : (r.bind k).wp Q := by
  obtain ⟨d, h, e, p⟩ := S
  rw [e]
  exact c d h p
theorem wp_call0 {r : Res D} {Q : D → Hm → Prop} {Post : D → Hm → Prop} (S : ∃ d h, r = .ok d h ∧ Post d h) (c : ∀ d h, Post d h → Q d h) : r.wp Q := by
  obtain ⟨d, h, e, p⟩ := S
  rw [e]
  exact c d h p

/-! ### a def by what its body is shown to do -/
inductive Out where
  | nx (σ : Sg) (h : Hm) | rt (d : D) (h : Hm) | bk (σ : Sg) (h : Hm) | ct (σ : Sg) (h : Hm) | xe (x : Exn) (σ : Sg) (h : Hm)
def Po.at (P : Po) : Out → Prop
  | .nx σ h => P.nx σ h
  | .rt d h => P.rt d h
  | .bk σ h => P.bk σ h
  | .ct σ h => P.ct σ h
  | .xe x σ h => P.xe x σ h
def Ends1 (w : Po → Prop) : Prop := ∀ P, w P → ∃ o, P.at o ∧ ∀ P', P'.at o → w P'
theorem ends_nx {σ : Sg} {h : Hm} : Ends1 fun P => P.nx σ h := fun P w => ⟨.nx σ h, w, fun _ z => z⟩
theorem ends_wp {α : Type} {r : Res α} {k : α → Hm → Po → Prop} (e : ∀ a h, Ends1 (k a h)) : Ends1 fun P => r.wp fun a h => k a h P := fun P w => by
  cases r with
  | ok a h => exact e a h P w
  | stuck => exact False.elim w
  | err _ _ => exact False.elim w
theorem ends_for {b : D → Sg → Hm → Po → Prop} (e : ∀ x σ h, Ends1 (b x σ h)) : ∀ (xs : List D) (σ : Sg) (h : Hm), Ends1 (wpFor b xs σ h)
  | [], σ, h => ends_nx
  | x :: xs, σ, h => fun P w => by
    obtain ⟨o, p, q⟩ := e x σ h _ w
    cases o with
    | nx σ' h' =>
      obtain ⟨o2, p2, q2⟩ := ends_for e xs σ' h' P p
      exact ⟨o2, p2, fun P' z => q _ (q2 P' z)⟩
    | ct σ' h' =>
      obtain ⟨o2, p2, q2⟩ := ends_for e xs σ' h' P p
      exact ⟨o2, p2, fun P' z => q _ (q2 P' z)⟩
    | bk σ' h' => exact ⟨.nx σ' h', p, fun P' z => q _ z⟩
    | rt d h' => exact ⟨.rt d h', p, fun P' z => q _ z⟩
    | xe e σ' h' => exact ⟨.xe e σ' h', p, fun P' z => q _ z⟩
theorem ends_while {c : Sg → Hm → Res Bool} {b : Sg → Hm → Po → Prop} (e : ∀ σ h, Ends1 (b σ h)) : ∀ (n : Nat) (σ : Sg) (h : Hm), Ends1 (wpWhile c b n σ h)
  | 0, _, _ => fun P w => False.elim w
  | n + 1, σ, h => fun P w => by
    have w : (c σ h).wp _ := w
    cases k : c σ h with
    | stuck => rw [k] at w; exact False.elim w
    | err _ _ => rw [k] at w; exact False.elim w
    | ok t h1 =>
      rw [k] at w
      cases t with
      | false => exact ⟨.nx σ h1, w, fun P' z => by
          show (c σ h).wp _
          rw [k]
          exact z⟩
      | true =>
        obtain ⟨o, p, q⟩ := e σ h1 _ w
        have up : ∀ P', b σ h1 { P' with nx := fun σ' h' => wpWhile c b n σ' h' P', ct := fun σ' h' => wpWhile c b n σ' h' P', bk := P'.nx } → wpWhile c b (n + 1) σ h P' := fun P' z => by
          show (c σ h).wp _
          rw [k]
          exact z
        cases o with
        | nx σ' h' =>
          obtain ⟨o2, p2, q2⟩ := ends_while e n σ' h' P p
          exact ⟨o2, p2, fun P' z => up P' (q _ (q2 P' z))⟩
        | ct σ' h' =>
          obtain ⟨o2, p2, q2⟩ := ends_while e n σ' h' P p
          exact ⟨o2, p2, fun P' z => up P' (q _ (q2 P' z))⟩
        | bk σ' h' => exact ⟨.nx σ' h', p, fun P' z => up P' (q _ z)⟩
        | rt d h' => exact ⟨.rt d h', p, fun P' z => up P' (q _ z)⟩
        | xe e σ' h' => exact ⟨.xe e σ' h', p, fun P' z => up P' (q _ z)⟩
theorem wpx_at {α : Type} {r : Res α} {Q : α → Hm → Prop} {E : Exn → Hm → Prop} (w : r.wpx Q E) : (∃ a h, Q a h ∧ r = .ok a h) ∨ ∃ x h, E x h ∧ r = .err x h := by
  cases r with
  | ok a h => exact .inl ⟨a, h, w, rfl⟩
  | stuck => exact False.elim w
  | err x h => exact .inr ⟨x, h, w, rfl⟩
theorem evX_at (Γ : Gam) (e : Ex) : ∀ {σ : Sg} {h : Hm} {Q : D → Hm → Prop} {E : Exn → Hm → Prop}, evX Γ e σ h Q E →
    (∃ d h1, Q d h1 ∧ ∀ (Q' : D → Hm → Prop) (E' : Exn → Hm → Prop), Q' d h1 → evX Γ e σ h Q' E') ∨ ∃ x h1, E x h1 ∧ ∀ (Q' : D → Hm → Prop) (E' : Exn → Hm → Prop), E' x h1 → evX Γ e σ h Q' E' := by
  induction e using Ex.rec (motive_2 := fun _ => True) (motive_3 := fun _ => True) (motive_4 := fun _ => True) with
  | call f es _ =>
    intro σ h Q E w
    rw [x_call] at w
    cases k : evEs Γ es σ h with
    | stuck => rw [k] at w; exact False.elim w
    | err _ _ => rw [k] at w; exact False.elim w
    | ok ds h1 =>
      rw [k, k_ag] at w
      rcases wpx_at w with ⟨d, h2, q, e⟩ | ⟨x, h2, q, e⟩
      · exact .inl ⟨d, h2, q, fun Q' E' z => by rw [x_call, k, k_ag, e]; exact z⟩
      · exact .inr ⟨x, h2, q, fun Q' E' z => by rw [x_call, k, k_ag, e]; exact z⟩
  | callk f es kes perm _ _ =>
    intro σ h Q E w
    rw [x_callk] at w
    cases k : evEs Γ es σ h with
    | stuck => rw [k] at w; exact False.elim w
    | err _ _ => rw [k] at w; exact False.elim w
    | ok ds h1 =>
      rw [k, k_ak] at w
      cases k2 : evEs Γ kes σ h1 with
      | stuck => rw [k2] at w; exact False.elim w
      | err _ _ => rw [k2] at w; exact False.elim w
      | ok ks h3 =>
        rw [k2, k_aj] at w
        rcases wpx_at w with ⟨d, h2, q, e⟩ | ⟨x, h2, q, e⟩
        · exact .inl ⟨d, h2, q, fun Q' E' z => by rw [x_callk, k, k_ak, k2, k_aj, e]; exact z⟩
        · exact .inr ⟨x, h2, q, fun Q' E' z => by rw [x_callk, k, k_ak, k2, k_aj, e]; exact z⟩
  | isN a ih =>
    intro σ h Q E w
    rw [x_isN] at w
    rcases ih w with ⟨d, h2, q, e⟩ | ⟨x, h2, q, e⟩
    · exact .inl ⟨_, h2, q, fun Q' E' z => e _ _ z⟩
    · exact .inr ⟨x, h2, q, fun Q' E' z => e _ _ z⟩
  | _ => first | exact trivial | exact fun w => False.elim w
theorem ends_x {Γ : Gam} {e : Ex} {σ : Sg} {h : Hm} {k : D → Hm → Po → Prop} (n : ∀ d h, Ends1 (k d h)) : Ends1 fun P => evX Γ e σ h (fun d h1 => k d h1 P) fun x h1 => P.xe x σ h1 := fun P w => by
  rcases evX_at Γ e w with ⟨d, h2, q, z⟩ | ⟨x, h2, q, z⟩
  · obtain ⟨o, p, q2⟩ := n d h2 P q
    exact ⟨o, p, fun P' y => z _ _ (q2 P' y)⟩
  · exact ⟨.xe x σ h2, q, fun P' y => z _ _ y⟩
theorem ends_hds {rs : List Str} {x : Exn} {σ : Sg} {h : Hm} : ∀ hs : List Hd, Ends1 fun P => hdsP rs x σ h P hs
  | [], P, w => ⟨.xe x σ h, w, fun _ z => z⟩
  | .c y i d :: r, P, w => by
    have w : hdsP rs x σ h P (.c y i d :: r) := w
    cases k : subX x.cls y with
    | true =>
      have m := w.1
      rw [hd_yes w.1 k] at w
      exact ⟨.nx _ _, w, fun P' z => ⟨m, by rw [k]; exact z⟩⟩
    | false =>
      have m := w.1
      rw [hd_no w.1 k] at w
      obtain ⟨o, p, q⟩ := ends_hds r P w
      exact ⟨o, p, fun P' z => ⟨m, by rw [k]; exact q P' z⟩⟩
mutual
theorem ends_S (Γ : Gam) : ∀ (s : Stm) (σ : Sg) (h : Hm), Ends1 (wpS Γ s σ h)
  | .set i e, σ, h => ends_wp fun _ _ => ends_nx
  | .asg is e, σ, h => ends_wp fun d h1 P w => by
    cases k : asgD (.tup is) d σ with
    | none => rw [k] at w; exact False.elim w
    | some σ' => rw [k] at w; exact ends_nx P w
  | .par i j a b, σ, h => ends_wp fun _ _ => ends_wp fun _ _ => ends_nx
  | .par3 i j l a b d, σ, h => ends_wp fun _ _ => ends_wp fun _ _ => ends_wp fun _ _ => ends_nx
  | .setix o i e, σ, h => ends_wp fun d h1 => ends_wp fun x h2 => ends_wp fun y h3 P w => by
    split at w
    · rename_i n k
      cases e1 : listOf? h3 n with
      | none => rw [e1] at w; exact False.elim w
      | some xs =>
        rw [e1] at w
        dsimp only at w ⊢
        cases e2 : ixN xs.length k with
        | none => rw [e2] at w; exact False.elim w
        | some j => rw [e2] at w; exact ends_nx P w
    · exact False.elim w
  | .dput o i e, σ, h => ends_wp fun d h1 => ends_wp fun x h2 => ends_wp fun y h3 P w => by
    split at w
    · rename_i n k
      cases e1 : dicOf? h3 n with
      | none => rw [e1] at w; exact False.elim w
      | some kd =>
        rw [e1] at w
        obtain ⟨o, w1, w2⟩ := ends_nx P w.2
        exact ⟨o, w1, fun P2 z => ⟨w.1, w2 P2 z⟩⟩
    · exact False.elim w
  | .ex e, σ, h => ends_wp fun _ _ => ends_nx
  | .ret e, σ, h => ends_wp fun d h1 P w => ⟨.rt d h1, w, fun _ z => z⟩
  | .ife c a b, σ, h => ends_wp fun t h1 P w => by
    cases t with
    | true => exact ends_B Γ a σ h1 P w
    | false => exact ends_B Γ b σ h1 P w
  | .for_ tg it b, σ, h => ends_wp fun xs h1 => ends_for (fun x σ h P w => by
    cases k : asgD tg x σ with
    | none => rw [k] at w; exact False.elim w
    | some σ' => rw [k] at w; exact ends_B Γ b σ' h P w) xs σ h1
  | .while_ c b, σ, h => fun P ⟨n, w⟩ => by
    obtain ⟨o, p, q⟩ := ends_while (fun σ h => ends_B Γ b σ h) n σ h P w
    exact ⟨o, p, fun P' z => ⟨n, q P' z⟩⟩
  | .brk, σ, h => fun P w => ⟨.bk σ h, w, fun _ z => z⟩
  | .cont, σ, h => fun P w => ⟨.ct σ h, w, fun _ z => z⟩
  | .pass, σ, h => ends_nx
  | .freeze i, σ, h => fun P w => by
    have w : (match σ[i]? with
      | some (some (.ref n)) => match listOf? h n with
        | some xs => P.nx (σ.set i (some (.lst xs))) (h.set n .gone)
        | none => False
      | _ => False) := w
    split at w
    · rename_i n e1
      split at w
      · rename_i xs e2
        refine ⟨.nx _ _, w, fun P' z => ?_⟩
        show (match σ[i]? with
          | some (some (.ref n)) => match listOf? h n with
            | some xs => P'.nx (σ.set i (some (.lst xs))) (h.set n .gone)
            | none => False
          | _ => False)
        rw [e1]
        dsimp only
        rw [e2]
        exact z
      · exact False.elim w
    · exact False.elim w
  | .never, σ, h => fun P w => False.elim w
  | .setX i e, σ, h => ends_x fun _ _ => ends_nx
  | .exX e, σ, h => ends_x fun _ _ => ends_nx
  | .retX e, σ, h => ends_x (k := fun d h P => P.rt d h) fun d h P w => ⟨.rt d h, w, fun _ z => z⟩
  | .raise x, σ, h => fun P w => ⟨.xe ⟨x, .non⟩ σ h, w, fun _ z => z⟩
  | .augI i e, σ, h => ends_wp fun d h1 P w => by
    split at w
    · exact ⟨.nx _ _, w, fun P' z => z⟩
    · exact False.elim w
  | .aug i e, σ, h => ends_wp fun d h1 P w => by
    split at w
    · split at w
      · exact ⟨.nx _ _, w.2, fun P' z => ⟨w.1, z⟩⟩
      · exact False.elim w
    · exact False.elim w
  | .try_ rs b hs, σ, h => fun P w => by
    obtain ⟨o, p, q⟩ := ends_B Γ b σ h _ w
    cases o with
    | nx σ' h' => exact ⟨.nx σ' h', p, fun P' z => q _ z⟩
    | rt d h' => exact ⟨.rt d h', p, fun P' z => q _ z⟩
    | bk σ' h' => exact ⟨.bk σ' h', p, fun P' z => q _ z⟩
    | ct σ' h' => exact ⟨.ct σ' h', p, fun P' z => q _ z⟩
    | xe x σ' h' =>
      obtain ⟨o2, p2, q2⟩ := ends_hds hs P p
      exact ⟨o2, p2, fun P' z => q { P' with xe := fun x σ' h' => hdsP rs x σ' h' P' hs } (q2 P' z)⟩
theorem ends_B (Γ : Gam) : ∀ (b : Blk) (σ : Sg) (h : Hm), Ends1 (wpB Γ b σ h)
  | .nil, σ, h => ends_nx
  | .cons s b, σ, h => fun P w => by
    obtain ⟨o, p, q⟩ := ends_S Γ s σ h _ w
    cases o with
    | nx σ' h' =>
      obtain ⟨o2, p2, q2⟩ := ends_B Γ b σ' h' P p
      exact ⟨o2, p2, fun P' z => q _ (q2 P' z)⟩
    | ct σ' h' => exact ⟨.ct σ' h', p, fun P' z => q _ z⟩
    | bk σ' h' => exact ⟨.bk σ' h', p, fun P' z => q _ z⟩
    | rt d h' => exact ⟨.rt d h', p, fun P' z => q _ z⟩
    | xe e σ' h' => exact ⟨.xe e σ' h', p, fun P' z => q _ z⟩
end
/-- what is told of a call: the arguments, the heap, the answer, the heap behind it -/
abbrev Tell := List D → Hm → D → Hm → Prop
def PoT (T : Tell) (ds : List D) (h : Hm) : Po := { nx := fun _ h2 => ∃ r h', Fz h .non h2 r h' ∧ T ds h r h', rt := fun d h2 => ∃ r h', Fz h d h2 r h' ∧ T ds h r h' }
open Classical in
noncomputable def denT (Γ : Gam) (N : List Str) (np : Nat) (b : Blk) (T : Tell) : List D → Hm → Res D := fun ds h =>
  if x : ds.length = np ∧ ∃ p : D × Hm, wpB Γ b (startD N ds) h { nx := fun _ h2 => Fz h .non h2 p.1 p.2, rt := fun d h2 => Fz h d h2 p.1 p.2 } ∧ T ds h p.1 p.2 then .ok x.2.choose.1 x.2.choose.2 else .stuck
theorem denT_body {Γ : Gam} {N : List Str} {np : Nat} {b : Blk} {T : Tell} : BodyOk Γ N b (denT Γ N np b T) := ⟨fun ds h r h' e => by
  unfold denT at e
  split at e
  · rename_i x
    obtain ⟨a, _⟩ := x.2.choose_spec
    obtain ⟨e1, e2⟩ := ok_inj e
    rw [← e1, ← e2]
    exact a
  · (cases e), fun ds h x h' e => by
  unfold denT at e
  split at e <;> cases e⟩
theorem denT_len {Γ : Gam} {N : List Str} {np : Nat} {b : Blk} {T : Tell} : LenOk (denT Γ N np b T) np := ⟨fun ds h r h' e => by
  unfold denT at e
  split at e
  · rename_i x
    exact x.1
  · (cases e), fun ds h x h' e => by
  unfold denT at e
  split at e <;> cases e⟩
theorem denT_ok {Γ : Gam} {N : List Str} {np : Nat} {b : Blk} {T : Tell} {ds : List D} {h : Hm} (hl : ds.length = np) (w : wpB Γ b (startD N ds) h (PoT T ds h)) : ∃ r h', denT Γ N np b T ds h = .ok r h' ∧ T ds h r h' := by
  obtain ⟨o, p, q⟩ := ends_B Γ b _ _ _ w
  have z : ∃ p : D × Hm, wpB Γ b (startD N ds) h { nx := fun _ h2 => Fz h .non h2 p.1 p.2, rt := fun d h2 => Fz h d h2 p.1 p.2 } ∧ T ds h p.1 p.2 := by
    cases o with
    | nx σ h2 =>
      obtain ⟨r, h', f, t⟩ := p
      exact ⟨(r, h'), q _ f, t⟩
    | rt d h2 =>
      obtain ⟨r, h', f, t⟩ := p
      exact ⟨(r, h'), q _ f, t⟩
    | bk σ h2 => exact False.elim p
    | ct σ h2 => exact False.elim p
    | xe x σ h2 => exact False.elim p
  exact ⟨_, _, by unfold denT; rw [dif_pos ⟨hl, z⟩], z.choose_spec.2⟩
/-- .. of a def that may raise: what is raised -/
abbrev TellX := List D → Hm → Exn → Hm → Prop
def PoX (T : Tell) (TX : TellX) (ds : List D) (h : Hm) : Po := { nx := fun _ h2 => ∃ r h', Fz h .non h2 r h' ∧ T ds h r h', rt := fun d h2 => ∃ r h', Fz h d h2 r h' ∧ T ds h r h', xe := fun x _ h2 => ∃ v h', Fz h x.val h2 v h' ∧ TX ds h ⟨x.cls, v⟩ h' }
open Classical in
noncomputable def denX (Γ : Gam) (N : List Str) (np : Nat) (b : Blk) (T : Tell) (TX : TellX) : List D → Hm → Res D := fun ds h =>
  if x : ds.length = np ∧ ∃ p : D × Hm, wpB Γ b (startD N ds) h { nx := fun _ h2 => Fz h .non h2 p.1 p.2, rt := fun d h2 => Fz h d h2 p.1 p.2 } ∧ T ds h p.1 p.2 then .ok x.2.choose.1 x.2.choose.2
  else if x : ds.length = np ∧ ∃ p : Exn × Hm, wpB Γ b (startD N ds) h { nx := fun _ _ => False, rt := fun _ _ => False, xe := fun x2 _ h2 => x2.cls = p.1.cls ∧ Fz h x2.val h2 p.1.val p.2 } ∧ TX ds h p.1 p.2 then .err x.2.choose.1 x.2.choose.2 else .stuck
theorem denX_body {Γ : Gam} {N : List Str} {np : Nat} {b : Blk} {T : Tell} {TX : TellX} : BodyOk Γ N b (denX Γ N np b T TX) := ⟨fun ds h r h' e => by
  unfold denX at e
  split at e
  · rename_i x
    obtain ⟨a, _⟩ := x.2.choose_spec
    obtain ⟨e1, e2⟩ := ok_inj e
    rw [← e1, ← e2]
    exact a
  · (split at e <;> cases e), fun ds h x h' e => by
  unfold denX at e
  split at e
  · cases e
  · split at e
    · rename_i x
      obtain ⟨a, _⟩ := x.2.choose_spec
      cases e
      exact a
    · cases e⟩
theorem denX_len {Γ : Gam} {N : List Str} {np : Nat} {b : Blk} {T : Tell} {TX : TellX} : LenOk (denX Γ N np b T TX) np := ⟨fun ds h r h' e => by
  unfold denX at e
  split at e
  · rename_i x
    exact x.1
  · (split at e <;> cases e), fun ds h x h' e => by
  unfold denX at e
  split at e
  · cases e
  · split at e
    · rename_i x
      exact x.1
    · cases e⟩
theorem denX_ok {Γ : Gam} {N : List Str} {np : Nat} {b : Blk} {T : Tell} {TX : TellX} {ds : List D} {h : Hm} (hl : ds.length = np) (w : wpB Γ b (startD N ds) h (PoX T TX ds h)) : (∃ r h', denX Γ N np b T TX ds h = .ok r h' ∧ T ds h r h') ∨ ∃ x h', denX Γ N np b T TX ds h = .err x h' ∧ TX ds h x h' := by
  obtain ⟨o, p, q⟩ := ends_B Γ b _ _ _ w
  rcases Classical.em (∃ p : D × Hm, wpB Γ b (startD N ds) h { nx := fun _ h2 => Fz h .non h2 p.1 p.2, rt := fun d h2 => Fz h d h2 p.1 p.2 } ∧ T ds h p.1 p.2) with z | z
  · exact .inl ⟨_, _, by unfold denX; rw [dif_pos ⟨hl, z⟩], z.choose_spec.2⟩
  · have z2 : ∃ p : Exn × Hm, wpB Γ b (startD N ds) h { nx := fun _ _ => False, rt := fun _ _ => False, xe := fun x2 _ h2 => x2.cls = p.1.cls ∧ Fz h x2.val h2 p.1.val p.2 } ∧ TX ds h p.1 p.2 := by
      cases o with
      | nx σ h2 =>
        obtain ⟨r, h', f, t⟩ := p
        exact absurd ⟨(r, h'), q _ f, t⟩ z
      | rt d h2 =>
        obtain ⟨r, h', f, t⟩ := p
        exact absurd ⟨(r, h'), q _ f, t⟩ z
      | bk σ h2 => exact False.elim p
      | ct σ h2 => exact False.elim p
      | xe x σ h2 =>
        obtain ⟨v, h', f, t⟩ := p
        exact ⟨(⟨x.cls, v⟩, h'), q { nx := fun _ _ => False, rt := fun _ _ => False, xe := fun x2 _ h2 => x2.cls = x.cls ∧ Fz h x2.val h2 v h' } ⟨rfl, f⟩, t⟩
    exact .inr ⟨_, _, by unfold denX; rw [dif_neg (fun k => z k.2), dif_pos ⟨hl, z2⟩], z2.choose_spec.2⟩
/-- reading forward, as far as it goes -/
local macro_rules | `(tactic| fail "mini fw") => `(tactic| simp only [startD, List.map, List.length, List.replicate, List.append, List.cons_append, List.nil_append, List.getElem?_cons_zero, List.getElem?_cons_succ, List.getElem?_nil, List.set_cons_zero, List.set_cons_succ, List.set_nil, Nat.sub_self, Nat.reduceSub, Nat.reduceAdd, Nat.reduceMul, Nat.reduceEqDiff, List.replicate_zero, List.replicate_succ, List.append_nil, Res.bind_ok, Res.bind_stuck, Res.guard_true, Res.guard_false, asgD, setAll, if_true, if_false, Bool.not_true, Bool.not_false, decide_true, decide_false, decide_eq_true_eq, Bool.false_eq_true, lim0, lim1, lim2, lim3, lim4, lim5, lim6, lim7, lim8, lim9, lim10, lim11, lim12, lim13, lim14, lim15, lim16, lim17, lim18, lim19, lim20, lim21, lim22, lim23, lim24, lim25, lim26, lim27, lim28, lim29, lim30, lim31, lim32, lim33, lim34, lim35, lim36, lim37, lim38, lim39, lim40, at0, at1, at2, at3, ty_int_non, ty_int_bl, ty_int_int, ty_int_str, ty_int_tup, ty_int_lst, ty_int_ref, ty_int_wtup, ty_bool_non, ty_bool_bl, ty_bool_int, ty_bool_str, ty_bool_tup, ty_bool_lst, ty_bool_ref, ty_bool_wtup, ty_str_non, ty_str_bl, ty_str_int, ty_str_str, ty_str_tup, ty_str_lst, ty_str_ref, ty_str_wtup, ty_tuple_non, ty_tuple_bl, ty_tuple_int, ty_tuple_str, ty_tuple_tup, ty_tuple_lst, ty_tuple_ref, ty_tuple_wtup, ty_list_non, ty_list_bl, ty_list_int, ty_list_str, ty_list_tup, ty_list_lst, ty_list_ref, ty_list_wtup, open_non, isNon_non, open_bl, isNon_bl, open_int, isNon_int, open_str, isNon_str, open_tup, isNon_tup, open_lst, isNon_lst, open_wtup, isNon_wtup, isNon_ref, open_ref, op_addI, op_addS, op_addL, op_addT, op_addML, op_subI, op_mulI, op_fdivI, op_modI, op_powI, cm_lt, cm_le, cm_gt, cm_ge, cm_eq, cm_ne, bi_lenT, bi_lenL, bi_lenS, bi_abs, bi_intI, bi_intB, bi_tupT, bi_tupL, bi_lstT, bi_lstL, bi_allL, bi_sortedL, ix_tup, ix_lst, ix_ref, tr_bl, it_tup, it_lst, eq_int, eq_bl, lst_lst, lst_ref, wipeD, permV, List.getD_cons_zero, List.getD_cons_succ, e_v, e_non, e_bl, e_int, e_str, e_glob, e_op2, e_neg, e_cmp, e_chain, e_isN, e_notN, e_band, e_bor, e_bnot, e_ifx, e_tup, e_lst, e_lstM, e_ix, e_slice, e_rev, e_call, e_callk, e_isi, e_isiT, e_bi, e_meth, e_lenset, e_sortset, e_rngM, rngMD_int, e_rngs, e_dct, e_dctM, e_dget, e_dix, dixD_dict, e_comp, es_nil, es_cons, t_band, t_bor, t_bnot, t_cmp, t_chain, t_isN, t_notN, t_v, t_bl, t_call, t_callk, t_isi, t_isiT, t_bi, ts_nil, ts_one, o_none, o_some, i_rng1, i_rng2, i_ex, i_rvs, i_enmT, i_sgn, i_zp, negR_int, notR_bl, chR_t, chR_f, coR_t, coR_f, chR_ok, coR_ok, andR_t, andR_f, andR_ok, orR_t, orR_f, orR_ok, ifR_t, ifR_f, ifR_ok, optR_int, rng1R_int, rng2R_int, enmTR_tup, zpR_tup, zpR_lst, itSD_str, revD_tup, revD_lst, cutD_tup, cutD_lst, cutD_str, rngsD_int, isDictD_dict, dgetD_dict, cm_in, cm_notin, cm_ltS, cm_leS, in_dict, bind_assoc, guard_bind, b_nil, seq_nx, seq_rt, seq_bk, seq_ct, b_set, k_set, b_ex, k_ex, b_ret, k_ret, b_ife, k_ifT, k_ifF, b_par, k_par, k_par2, b_tri, k_tri, k_tri2, k_tri3, b_asg, k_asg, b_for, b_setix, b_pass, b_brk, b_cont, seq_xe, tr_nx, tr_rt, tr_bk, tr_ct, tr_xe, b_try, b_raise, b_aug, b_augI, k_augI, b_setX, b_exX, b_retX, k_setX, k_exX, k_retX, k_err, x_isN, k_isN, x_call, x_callk, k_ag, k_ak, k_aj])

/-! Mini 20: a law that may ask repr: it is called where no repr is under way. -/

/-- a def called at one place -/
def RunsAt (P : Program) (w : World) (K : PySem.W.Frag) (mg : Str → Option Value) (base : Heap) (A0 : Around) (fn : Addr) (fdat : FuncData) (ps : List Str) (want : Sp) : Prop :=
  ∀ (st0 : Shared) (H0 : Hp) (us : List Value) (vs : List V) (Q0 : VK) (E0 : XK), Env0 P w K mg base A0 [] st0 H0 → BindsTo st0 fdat ⟨us, []⟩ (ps.zip us) → Vals vs us → want vs H0 Q0 E0 →
    codeAny (model P w) A0 (.call (.ref fn) ⟨us, []⟩) (CR (L2.CX P w) [] P w H0 st0 Q0 E0) st0
section
variable {P : Program} {w : World} {K : PySem.W.Frag} {mg : Str → Option Value} {base : Heap} {k : Nat} {den : List D → Hm → Res D}
theorem law_at {qual fdn : Str} {st : Stmt} {fn : Addr} {fdat : FuncData} {ps : List Str} {c : Ctx} {Γ : Gam} {body : Blk} {A0 : Around} (F : Fun K fdn qual st fn fdat) (S : FnScope c.N ps (defScope st)) (hc : c.names = (defScope st).names) (ho : c.own = none)
    (E : EnvOk P w K mg base k c Γ) (chk : chkB body c (defBody st) = true) (hn : LenOk den ps.length) (hb : BodyOk Γ c.N body den)
    (room : Room (k + 1) A0) (gd : A0.guards = some []) : RunsAt P w K mg base A0 fn fdat ps (spD K ps.length den) := by
  intro st0 H0 us vs Q0 E0 en bt vu hw
  obtain ⟨cO, dO, v1, v2, v3, v4, cd, v5, slO, rfl, look, hcd⟩ := F.ex
  have nvs : vs.length = ps.length := hw.1
  have keeps : ∀ b o, base.get? b = some o → st0.heap.get? b = some o := fun b o z => (en.bs b o z).1
  have inK : K.In st0.heap := en.mod.kin.keeps keeps
  have nolim : st0.heap.NoLimit := en.mod.nolimit.keeps keeps
  refine codeAny_call_function room.depth (inK _ _ look) rfl S.co S.gen rfl (PySem.W.codeRec_of inK hcd) (bt _ _ _ _ ?_)
  refine wpAny_newFunctionEnv_cells S.kind (fun z hz => ?_) fun env1 same1 st1 inC => ?_
  · rcases S.par z.1 (List.of_mem_zip hz).1 with q | q
    · exact Or.inl q
    · exact Or.inr ⟨q, PySem.W.cellsFrom_some _ _ _ (Or.inl q)⟩
  subst same1
  refine ⟨nolim.keeps inC.toInCall.keep, codeAny_func ?_⟩
  have snd := (sndB Γ body c _ _ _ (good_of (qual := qual) (P := P) (w := w) (K := K) (mg := mg) (base := base) (f := fn) (cdv := cd) (outer := []) (s := st0) (H := H0) (X := E0) (A := A0) S hc ho E (room.deeper _) fun _ => gd) chk)
  have I1 : L2.Inv (cxOf (L2.CX P w) P w K mg base c.N qual (defScope st) fn cd A0 [] st0 H0 E0) [] (L2.start c.N vs) H0 st1 := inv_start S room.hd en nvs vu inC
  refine wpAny_mono (snd.run [] st1 _ H0 _ I1 (body_run hw hb)) (fun how st2 hs => ?_) fun _ _ hs => hs
  cases how with
  | ret u =>
    obtain ⟨v, σ2, H2, J, rv, q⟩ := hs
    exact ⟨v, H2, J.os, J.bare, J.base, J.hok, rv, q⟩
  | next =>
    obtain ⟨σ2, H2, J, q⟩ := hs
    exact ⟨V.non, H2, J.os, J.bare, J.base, J.hok, rfl, q⟩
  | brk =>
    obtain ⟨_, _, _, no⟩ := hs
    cases no
  | cont =>
    obtain ⟨_, _, _, no⟩ := hs
    cases no
/-- the script alone may be known -/
def Alone (H : Hp) : Prop := ∀ b, H b = none ∨ ∃ o xs, H b = some (.frz o (.lst xs))
theorem law_step2 {c : Ctx} {Γ : Gam} {body : Blk} {st : Stmt} {h0 : Heap} {fa : Addr} (A : DefAt K "law" st) (X : K.In h0) (G : h0.Ns mainGlobals mg) (hfa : mg "law" = some (.ref fa)) (S : FnScope c.N ["script"] (defScope st)) (hc : c.names = (defScope st).names) (ho : c.own = none)
    (E : ∀ base : Heap, EnvOk P w K mg base k c Γ) (chk : chkB body c (defBody st) = true)
    (hbind : ∀ (kV doc pm : Value) (an : Option Addr) (cdv ct : Value) (u : Value), bindArgs (PySem.W.fnOf "law" "law" (defArgs st) (defBody st) (defScope st) .none kV doc pm an cdv ct) ⟨[u], []⟩ = pure [(("script" : Str), u)])
    (hn : LenOk den 1) (hb : BodyOk Γ c.N body den) (room : Room (k + 1) callerA) :
    ∃ fd : FuncData, (∀ (s : Shared) (u : Value), BindsTo s fd ⟨[u], []⟩ [("script", u)]) ∧ ∀ base : Heap, K.In base → base.Ns mainGlobals mg → RunsAt P w K mg base callerA fa fd ["script"] (spD K 1 den) := by
  obtain ⟨f, fd, a, F⟩ := A
  have e := hfa.symm.trans (PySem.W.mg_of X G a)
  cases e
  refine ⟨fd, fun s u => ?_, fun base _ _ => law_at F S hc ho (E base) chk hn hb room rfl⟩
  obtain ⟨oc, od, kV, doc, pm, an, cdv, ct, osl, rfl, lk, hcd⟩ := F.ex
  exact .of_eq (hbind kV doc pm an cdv ct u)
/-- the call of the law, as the claim asks it -/
theorem law_asked {mb : Str → Option Value} {fa a : Addr} {fdat : FuncData} {st1 : Shared} {its : List Value} {ns : List Int}
    (inK : K.In st1.heap) (ns1 : st1.heap.Ns mainGlobals mg) (nb : st1.heap.Ns builtinsNs mb) (nbb : ∀ x : Str, x ≠ "__name__" → mb x = bootBuiltins x) (nol : st1.heap.NoLimit) (gens : st1.gens = #[])
    (lies : st1.heap.get? a = some { cls := .type "list", data := .seq its.toArray }) (cells : IntsAre its ns) (few : ns.length ≤ 63)
    (runs : ∀ base : Heap, K.In base → base.Ns mainGlobals mg → RunsAt P w K mg base callerA fa fdat ["script"] (spD K 1 den)) (bt : ∀ (s : Shared) (u : Value), BindsTo s fdat ⟨[u], []⟩ [("script", u)])
    (good : ∃ h', den [.lst (ns.map D.int)] [] = .ok (.bl true) h') :
    codeAny (model P w) callerA (.call (.ref fa) ⟨[.ref a], []⟩) (fun r s' => r = .ok (.ret (.bool true)) ∧ OldK st1.heap s'.heap ∧ s'.os = st1.os ∧ AllBare s'.gens) st1 := by
  have vals := vals_ints cells
  have big : (ns.map V.int).length ≤ sizeLine := by rw [List.length_map, sz]; omega
  have same := cells.length
  -- H1: what is known at the call
  have main : ∀ H1 : Hp, Alone H1 → SqL K H1 a (ns.map V.int) → HOk P w H1 st1.heap → (∀ b, H1 b ≠ none → b = a) → (H1 a ≠ none → K.lookup a = none) →
      codeAny (model P w) callerA (.call (.ref fa) ⟨[.ref a], []⟩) (fun r s' => r = .ok (.ret (.bool true)) ∧ OldK st1.heap s'.heap ∧ s'.os = st1.os ∧ AllBare s'.gens) st1 := by
    intro H1 al sq hok only free
    have dicts : ∀ {b : Addr} {o : Obj} {es : Array DictEntry} {ep : Nat}, st1.heap.get? b = some o → o.data = .dict es ep → H1 b = none := by
      intro b o es ep g dt
      rcases Classical.em (H1 b = none) with z | z
      · exact z
      · have eb := only b z
        rw [eb, lies] at g
        cases g
        cases (dt : Data.seq its.toArray _ = Data.dict es ep)
    have nsH : ∀ {b : Addr} {m : Str → Option Value}, st1.heap.Ns b m → (hidT st1.heap H1).Ns b m := by
      rintro b m ⟨o, es, ep, g, dt, r⟩
      exact ⟨o, es, ep, hidT_get g (dicts g dt), dt, r⟩
    have inH : K.In (hidT st1.heap H1) := by
      intro b o g
      refine hidT_get (inK b o g) ?_
      rcases Classical.em (H1 b = none) with z | z
      · exact z
      · have eb := only b z
        rw [eb] at z g
        rw [free z] at g
        cases g
    have modH : Mod K mg (hidT st1.heap H1) := by
      obtain ⟨mc, l1, l2⟩ := nol
      exact ⟨inH, nsH ns1, ⟨mb, nsH nb, nbb⟩, ⟨mc, nsH l1, l2⟩⟩
    have en : Env0 P w K mg (hidT st1.heap H1) callerA [] st1 H1 := by
      refine ⟨rfl, modH, fun b o g => of_hidT g, ?_, trivial, fun b hb => ?_, hok, .of_eq gens⟩
      · rw [hidT_size]
        exact Nat.le_refl _
      · cases (show b ∈ ([] : List Addr) from hb)
    refine codeAny_mono (runs _ inH (nsH ns1) st1 H1 [.ref a] [.ref a] _ _ en (bt st1 _) (.cons rfl .nil) (law_sp sq good)) fun r s' back => ?_
    cases r with
    | error e =>
      obtain ⟨_, _, _, _, _, _, _, _, _, _, _, _, z⟩ := back
      exact z.elim
    | ok how =>
      cases how with
      | next => exact False.elim back
      | brk => exact False.elim back
      | cont => exact False.elim back
      | ret u =>
        obtain ⟨v, H2, b1, b2, b3, b4, b5, b6⟩ := back
        cases (b6 : v = .bl true)
        cases (b5 : u = Value.bool true)
        refine ⟨rfl, OldK.of_keep fun b o g => ?_, b1, b2⟩
        rcases al b with z | ⟨ob, ys, z⟩
        · exact b3.keep b o g z (fun m => by cases (show b ∈ ([] : List Addr) from m)) (by simp)
        · have g1 := (hok b _ z).1
          have g2 := (b4 b _ (b3.frzs b ob _ z)).1
          rw [g] at g1
          cases g1
          exact g2
  rcases lk : K.lookup a with _ | o
  · let H1 : Hp := fun b => if b = a then some (.frz { cls := .type "list", data := .seq its.toArray } (.lst (ns.map V.int))) else none
    have at1 : H1 a = some (.frz { cls := .type "list", data := .seq its.toArray } (.lst (ns.map V.int))) := if_pos rfl
    have off : ∀ b, b ≠ a → H1 b = none := fun b hb => if_neg hb
    refine main H1 (fun b => ?_) (.inl (.inr ⟨_, at1⟩)) (fun b u z => ?_) (fun b z => ?_) fun _ => lk
    · by_cases hb : b = a
      · exact .inr ⟨_, _, by rw [hb]; exact at1⟩
      · exact .inl (off b hb)
    · by_cases hb : b = a
      · rw [hb, at1] at z
        cases z
        rw [hb]
        exact ⟨lies, big, its, _, vals, lies⟩
      · rw [off b hb] at z
        cases z
    · rcases Classical.em (b = a) with hb | hb
      · exact hb
      · exact absurd (off b hb) z
  · have g := inK a o lk
    rw [lies] at g
    cases g
    refine main (fun _ => none) (fun _ => .inl rfl) (.inr ⟨_, its.toArray, _, lk, rfl, rfl, rfl, ?_, by simpa using vals⟩) (fun b u z => nomatch (show none = some u from z)) (fun b z => absurd rfl z) fun z => absurd rfl z
    rw [List.size_toArray, same]
    rw [List.length_map] at big
    exact big
end
theorem law_walk2 {l : PySem.W.OpenLaw} {q : Program} {loose : List Str} {XP : (Str → Option Value) → Heap → Prop} {YP : World → Heap → Prop} {d : DefRec} {K : Params → PySem.W.Frag} {den : List D → Hm → Res D} (hn : l.most = some 63) (hdf : d.params.defaults = [])
    (hY : ∀ (w : World) (h : Heap), YP w h → (K w.params).In h) (hden : ∀ zs : List Int, zs.length ≤ 63 → ∃ h', den [.lst (zs.map .int)] [] = .ok (.bl true) h')
    (F : ∀ (w : World) (mg : Str → Option Value) (fa : Addr) (h : Heap), (K w.params).In h → h.Ns mainGlobals mg → mg d.name = some (.ref fa) →
      ∃ fd : FuncData, (∀ (s : Shared) (u : Value), BindsTo s fd ⟨[u], []⟩ [("script", u)]) ∧ ∀ base : Heap, (K w.params).In base → base.Ns mainGlobals mg → RunsAt l.prog w (K w.params) mg base callerA fa fd ["script"] (spD (K w.params) 1 den)) :
    PySem.W.WalkO q loose XP YP l.row.toRowW d [] (fun f vs => PySem.call f vs) := by
  refine Att.attach_call hn hdf fun w st0 st1 mg mb fa o pm cd doc a its ns gr yp g1 g2 g3 g4 g5 g6 g7 g8 => ?_
  obtain ⟨fd, bt, runs⟩ := F w mg fa _ (hY w _ yp) gr.T.g g4
  exact law_asked (hY w _ yp) gr.T.g gr.T.b gr.T.builtins gr.T.nolimit g8 g5 g6 g7 runs bt (hden ns g7)

/-! Mini 21: how long a value is when it is shown. -/
theorem lit_len (s : String) : (Str.ofString s).length = s.length := by
  rw [Str.ofString_eq_toList]
  show (List.toArray _).size = _
  rw [List.size_toArray, List.length_map]
  exact String.length_toList
theorem int_len (i : Int) : (Str.ofString (toString i)).length ≤ i.natAbs.log2 + 3 := by
  have key : ∀ n : Nat, (Str.ofString (toString (n : Int))).length ≤ n.log2 + 1 := fun n => by
    refine toString_length_le (Int.natCast_nonneg n) (Nat.succ_pos _) ?_
    have h1 : n < 2 ^ (n.log2 + 1) := Nat.lt_log2_self
    have h2 : 2 ^ (n.log2 + 1) ≤ 10 ^ (n.log2 + 1) := Nat.pow_le_pow_left (by decide) _
    exact_mod_cast Nat.lt_of_lt_of_le h1 h2
  cases i with
  | ofNat n => exact Nat.le_trans (key n) (by show _ ≤ n.log2 + 3; omega)
  | negSucc n =>
    have k := key (n + 1)
    rw [lit_len] at k ⊢
    rw [show toString (Int.negSucc n) = "-" ++ toString (n + 1) from rfl, String.length_append]
    have e : toString ((n + 1 : Nat) : Int) = toString (n + 1) := rfl
    rw [e] at k
    show 1 + _ ≤ (n + 1).log2 + 3
    omega
theorem join_len : ∀ ts : List Str, (Str.join (Str.ofString ", ") ts).length ≤ (ts.map fun t => t.length + 2).sum := fun ts => by
  induction ts with
  | nil => exact Nat.zero_le _
  | cons t ts ih =>
    cases ts with
    | nil => show t.length ≤ t.length + 2 + 0; omega
    | cons u us =>
      have e : Str.join (Str.ofString ", ") (t :: u :: us) = t ++ Str.ofString ", " ++ Str.join (Str.ofString ", ") (u :: us) := rfl
      rw [e, Str.length_append, Str.length_append, lit_len, List.map_cons, List.sum_cons]
      show t.length + 2 + _ ≤ _
      omega
theorem from_len : ∀ (ts : List Str) (k : Nat) (acc : Str), (textFrom k acc ts).length ≤ acc.length + (ts.map fun t => t.length + 2).sum
  | [], k, acc => Nat.le_add_right _ _
  | t :: ts, k, acc => by
    show (textFrom (k + 1) (acc ++ (Str.ofString (if k > 0 then ", " else "")) ++ t) ts).length ≤ _
    refine Nat.le_trans (from_len ts _ _) ?_
    rw [Str.length_append, Str.length_append, lit_len, List.map_cons, List.sum_cons]
    split
    · show acc.length + 2 + _ + _ ≤ _; omega
    · show acc.length + 0 + _ + _ ≤ _; omega
mutual
/-- a bound of a value's text -/
def wtD : D → Nat
  | .non => 4
  | .bl _ => 5
  | .int i => i.natAbs.log2 + 3
  | .str x => 10 * x.length + 2
  | .tup xs => wtDs xs + 3
  | .lst xs => wtDs xs + 2
  | _ => 0
def wtDs : List D → Nat
  | [] => 0
  | x :: xs => wtD x + 2 + wtDs xs
end
mutual
/-- numbers that can be shown -/
def logD : D → Bool
  | .int i => decide (i.natAbs.log2 < 1920)
  | .tup xs => logDs xs
  | .lst xs => logDs xs
  | _ => true
def logDs : List D → Bool
  | [] => true
  | x :: xs => logD x && logDs xs
end
theorem shown_all : ∀ (xs : List PyData), PyData.shownAll xs = xs.map PyData.shown
  | [] => rfl
  | x :: xs => by
    show x.shown :: PyData.shownAll xs = _
    rw [shown_all xs, List.map_cons]
mutual
theorem show_ok : ∀ (k : Nat) (d : D) (p : PyData), plainD k d = true → logD d = true → toPy d = some p → p.showable = true ∧ p.hasDict = false ∧ p.shown.length ≤ wtD d
  | _, .non, p, _, _, e => by
    cases e
    exact ⟨rfl, rfl, by show (Str.ofString "None").length ≤ 4; rw [lit_len]; decide⟩
  | _, .bl b, p, _, _, e => by
    cases e
    refine ⟨rfl, rfl, ?_⟩
    cases b
    · show (Str.ofString "False").length ≤ 5; rw [lit_len]; decide
    · show (Str.ofString "True").length ≤ 5; rw [lit_len]; decide
  | _, .int i, p, _, l, e => by
    cases e
    exact ⟨l, rfl, int_len i⟩
  | k, .str x, p, h, _, e => by
    cases e
    refine ⟨rfl, rfl, StrLaws.reprText_len x fun c hc => ?_⟩
    have h : PyData.strOk x = true := by cases k <;> exact h
    unfold PyData.strOk at h
    rw [Array.all_eq_true'] at h
    have := h c (by simpa using hc)
    exact Nat.lt_trans (of_decide_eq_true this) (by decide)
  | 0, .tup xs, p, h, _, _ => Bool.noConfusion h
  | k + 1, .tup xs, p, h, l, e => by
    have e : (toPys xs).map PyData.tuple = some p := e
    have h : (decide (xs.length ≤ 1000) && xs.all (plainD k)) = true := h
    rw [Bool.and_eq_true] at h
    cases e2 : toPys xs with
    | none => rw [e2] at e; cases e
    | some ps =>
      rw [e2] at e
      cases e
      obtain ⟨a1, a2, a3⟩ := shows_ok k xs ps h.2 l e2
      refine ⟨a1, a2, ?_⟩
      show (tupleText (PyData.shownAll ps)).length ≤ wtDs xs + 3
      unfold tupleText
      rw [Str.length_append, Str.length_append, lit_len, lit_len]
      have j := join_len (PyData.shownAll ps)
      have z : (if ((PyData.shownAll ps).length == 1) = true then ",)" else ")").length ≤ 2 := by split <;> decide
      show 1 + _ + _ ≤ _
      omega
  | 0, .lst xs, p, h, _, _ => Bool.noConfusion h
  | k + 1, .lst xs, p, h, l, e => by
    have e : (toPys xs).map PyData.list = some p := e
    have h : (decide (xs.length ≤ 1000) && xs.all (plainD k)) = true := h
    rw [Bool.and_eq_true] at h
    cases e2 : toPys xs with
    | none => rw [e2] at e; cases e
    | some ps =>
      rw [e2] at e
      cases e
      obtain ⟨a1, a2, a3⟩ := shows_ok k xs ps h.2 l e2
      refine ⟨a1, a2, ?_⟩
      show (listText (PyData.shownAll ps)).length ≤ wtDs xs + 2
      unfold listText
      rw [Str.length_append]
      have j := from_len (PyData.shownAll ps) 0 (Str.ofString "[")
      rw [lit_len] at j
      have z : (Str.ofString "]").length = 1 := by rw [lit_len]; decide
      have z2 : ("[" : String).length = 1 := by decide
      omega
  | k, .ref _, _, h, _, _ => by cases k <;> exact Bool.noConfusion h
  | k, .wtup _, _, h, _, _ => by cases k <;> exact Bool.noConfusion h
  | k, .dict _ _, _, h, _, _ => by cases k <;> exact Bool.noConfusion h
  | k, .fn _ _, _, h, _, _ => by cases k <;> exact Bool.noConfusion h
theorem shows_ok : ∀ (k : Nat) (xs : List D) (ps : List PyData), xs.all (plainD k) = true → logDs xs = true → toPys xs = some ps → PyData.showableAll ps = true ∧ PyData.hasDictAll ps = false ∧ ((PyData.shownAll ps).map fun t => t.length + 2).sum ≤ wtDs xs
  | _, [], ps, _, _, e => by
    cases e
    exact ⟨rfl, rfl, Nat.le_refl _⟩
  | k, x :: xs, ps, h, l, e => by
    rw [List.all_cons, Bool.and_eq_true] at h
    have l : (logD x && logDs xs) = true := l
    rw [Bool.and_eq_true] at l
    unfold toPys at e
    cases e1 : toPy x with
    | none => rw [e1] at e; cases e
    | some p =>
      cases e2 : toPys xs with
      | none => rw [e1, e2] at e; cases e
      | some qs =>
        rw [e1, e2] at e
        cases e
        obtain ⟨a1, a2, a3⟩ := show_ok k x p h.1 l.1 e1
        obtain ⟨b1, b2, b3⟩ := shows_ok k xs qs h.2 l.2 e2
        refine ⟨?_, ?_, ?_⟩
        · show (p.showable && PyData.showableAll qs) = true
          rw [a1, b1]
          rfl
        · show (p.hasDict || PyData.hasDictAll qs) = false
          rw [a2, b2]
          rfl
        · show ((p.shown :: PyData.shownAll qs).map fun t => t.length + 2).sum ≤ wtD x + 2 + wtDs xs
          rw [List.map_cons, List.sum_cons]
          omega
end
/-! its signs -/
theorem okS {x : Str} : PyData.strOk x = true ↔ ∀ c ∈ x.cps.toList, c < 1114112 := by
  unfold PyData.strOk
  rw [Array.all_eq_true']
  constructor
  · intro h c hc
    exact of_decide_eq_true (h c (by simpa using hc))
  · intro h c hc
    exact decide_eq_true (h c (by simpa using hc))
theorem okS_app {a b : Str} (ha : PyData.strOk a = true) (hb : PyData.strOk b = true) : PyData.strOk (a ++ b) = true := by
  rw [okS] at ha hb ⊢
  intro c hc
  have e : (a ++ b).cps.toList = a.cps.toList ++ b.cps.toList := Array.toList_append
  rw [e] at hc
  rcases List.mem_append.mp hc with h | h
  · exact ha c h
  · exact hb c h
theorem okS_lit {s : String} : PyData.strOk (Str.ofString s) = true := by
  rw [okS, Str.ofString_eq_toList]
  intro c hc
  have hc : c ∈ s.toList.map Char.toNat := by simpa using hc
  obtain ⟨x, _, rfl⟩ := List.mem_map.mp hc
  have v := x.valid
  have l : x.val.toNat < 0x110000 := by
    rcases v with v | v <;> omega
  exact l
theorem okS_join : ∀ ts : List Str, (∀ t ∈ ts, PyData.strOk t = true) → PyData.strOk (Str.join (Str.ofString ", ") ts) = true
  | [], _ => okS_lit (s := "")
  | [t], h => h t List.mem_cons_self
  | t :: u :: us, h => by
    have e : Str.join (Str.ofString ", ") (t :: u :: us) = t ++ Str.ofString ", " ++ Str.join (Str.ofString ", ") (u :: us) := rfl
    rw [e]
    exact okS_app (okS_app (h t List.mem_cons_self) okS_lit) (okS_join (u :: us) fun y hy => h y (List.mem_cons_of_mem _ hy))
theorem okS_from : ∀ (ts : List Str) (k : Nat) (acc : Str), PyData.strOk acc = true → (∀ t ∈ ts, PyData.strOk t = true) → PyData.strOk (textFrom k acc ts) = true
  | [], _, _, ha, _ => ha
  | t :: ts, k, acc, ha, h => okS_from ts (k + 1) (acc ++ (Str.ofString (if k > 0 then ", " else "")) ++ t) (okS_app (okS_app ha okS_lit) (h t List.mem_cons_self)) fun y hy => h y (List.mem_cons_of_mem _ hy)
theorem reprChar_ok {q c : Nat} (hc : c < 1114112) : ∀ y ∈ Builtin.Str.reprChar q c, y < 1114112 := by
  have dig : ∀ (w : Nat), ∀ y ∈ (List.replicate (w - ((Nat.toDigits 16 c).map Char.toNat).length) 48 ++ (Nat.toDigits 16 c).map Char.toNat), y < 1114112 := by
    intro w y hy
    rcases List.mem_append.mp hy with h | h
    · rw [(List.mem_replicate.mp h).2]; decide
    · obtain ⟨x, _, rfl⟩ := List.mem_map.mp h
      have v := x.valid
      show x.val.toNat < 1114112
      rcases v with v | v <;> omega
  have two : ∀ a b : Nat, a < 1114112 → b < 1114112 → ∀ y ∈ [a, b], y < 1114112 := by
    intro a b ha hb y hy
    rcases List.mem_cons.mp hy with rfl | hy
    · exact ha
    · rw [List.mem_singleton.mp hy]; exact hb
  have hex : ∀ (a w : Nat), a < 1114112 → ∀ y ∈ ([92, a] ++ (List.replicate (w - ((Nat.toDigits 16 c).map Char.toNat).length) 48 ++ (Nat.toDigits 16 c).map Char.toNat)), y < 1114112 := by
    intro a w ha y hy
    rcases List.mem_append.mp hy with h | h
    · exact two 92 a (by decide) ha y h
    · exact dig w y h
  unfold Builtin.Str.reprChar
  dsimp only
  split
  · exact two 92 c (by decide) hc
  · split
    · exact two 92 110 (by decide) (by decide)
    · split
      · exact two 92 114 (by decide) (by decide)
      · split
        · exact two 92 116 (by decide) (by decide)
        · split
          · intro y hy
            rw [List.mem_singleton.mp hy]
            exact hc
          · split
            · exact hex 120 2 (by decide)
            · split
              · exact hex 117 4 (by decide)
              · exact hex 85 8 (by decide)
theorem okS_repr {x : Str} (h : PyData.strOk x = true) : PyData.strOk (reprText x) = true := by
  have hq : reprQuote x < 1114112 := by
    unfold reprQuote
    split <;> decide
  have fold : ∀ (cs : List Nat) (acc : Array Nat), (∀ c ∈ cs, c < 1114112) → (∀ c ∈ acc.toList, c < 1114112) → ∀ c ∈ (cs.foldl (fun out c => out ++ (Builtin.Str.reprChar (reprQuote x) c).toArray) acc).toList, c < 1114112 := by
    intro cs
    induction cs with
    | nil => intro acc _ ha; exact ha
    | cons c cs ih =>
      intro acc hc ha
      rw [List.foldl_cons]
      refine ih _ (fun y hy => hc y (List.mem_cons_of_mem _ hy)) fun y hy => ?_
      rw [Array.toList_append] at hy
      rcases List.mem_append.mp hy with h | h
      · exact ha y h
      · exact reprChar_ok (hc c List.mem_cons_self) y h
  rw [okS]
  intro c hc
  unfold reprText at hc
  rw [← Array.foldl_toList] at hc
  simp only [Array.toList_push] at hc
  rcases List.mem_append.mp hc with hc | hc
  · exact fold x.cps.toList #[reprQuote x] (okS.mp h) (fun y hy => by
      rw [List.mem_singleton.mp (show y ∈ [reprQuote x] from hy)]
      exact hq) c hc
  · rw [List.mem_singleton.mp hc]
    exact hq
mutual
theorem shown_sig : ∀ (k : Nat) (d : D) (p : PyData), plainD k d = true → toPy d = some p → PyData.strOk p.shown = true
  | _, .non, p, _, e => by cases e; exact okS_lit (s := "None")
  | _, .bl b, p, _, e => by
    cases e
    cases b
    · exact okS_lit (s := "False")
    · exact okS_lit (s := "True")
  | _, .int i, p, _, e => by cases e; exact okS_lit (s := toString i)
  | k, .str x, p, h, e => by
    cases e
    exact okS_repr (by cases k <;> exact h)
  | 0, .tup xs, p, h, _ => Bool.noConfusion h
  | k + 1, .tup xs, p, h, e => by
    have e : (toPys xs).map PyData.tuple = some p := e
    have h : (decide (xs.length ≤ 1000) && xs.all (plainD k)) = true := h
    rw [Bool.and_eq_true] at h
    cases e2 : toPys xs with
    | none => rw [e2] at e; cases e
    | some ps =>
      rw [e2] at e
      cases e
      show PyData.strOk (tupleText (PyData.shownAll ps)) = true
      unfold tupleText
      exact okS_app (okS_app okS_lit (okS_join _ (shown_sigs k xs ps h.2 e2))) okS_lit
  | 0, .lst xs, p, h, _ => Bool.noConfusion h
  | k + 1, .lst xs, p, h, e => by
    have e : (toPys xs).map PyData.list = some p := e
    have h : (decide (xs.length ≤ 1000) && xs.all (plainD k)) = true := h
    rw [Bool.and_eq_true] at h
    cases e2 : toPys xs with
    | none => rw [e2] at e; cases e
    | some ps =>
      rw [e2] at e
      cases e
      show PyData.strOk (listText (PyData.shownAll ps)) = true
      unfold listText
      exact okS_app (okS_from _ _ _ (okS_lit (s := "[")) (shown_sigs k xs ps h.2 e2)) okS_lit
  | k, .ref _, _, h, _ => by cases k <;> exact Bool.noConfusion h
  | k, .wtup _, _, h, _ => by cases k <;> exact Bool.noConfusion h
  | k, .dict _ _, _, h, _ => by cases k <;> exact Bool.noConfusion h
  | k, .fn _ _, _, h, _ => by cases k <;> exact Bool.noConfusion h
theorem shown_sigs : ∀ (k : Nat) (xs : List D) (ps : List PyData), xs.all (plainD k) = true → toPys xs = some ps → ∀ t ∈ PyData.shownAll ps, PyData.strOk t = true
  | _, [], ps, _, e => by
    cases e
    intro t ht
    cases ht
  | k, x :: xs, ps, h, e => by
    rw [List.all_cons, Bool.and_eq_true] at h
    unfold toPys at e
    cases e1 : toPy x with
    | none => rw [e1] at e; cases e
    | some p =>
      cases e2 : toPys xs with
      | none => rw [e1, e2] at e; cases e
      | some qs =>
        rw [e1, e2] at e
        cases e
        intro t ht
        have ht : t ∈ p.shown :: PyData.shownAll qs := ht
        rcases List.mem_cons.mp ht with rfl | ht
        · exact shown_sig k x p h.1 e1
        · exact shown_sigs k xs qs h.2 e2 t ht
end
/-- repr of plain data -/
def shownOf (d : D) : Str := match toPy d with
  | some p => p.shown
  | none => Str.ofString ""
theorem repr_plain {k : Nat} {d : D} {h : Hm} (s : d = .tup ((match d with | .tup xs => xs | _ => [])) ∨ d = .lst ((match d with | .lst xs => xs | _ => []))) (hk : k ≤ 60) (p : plainD k d = true) (l : logD d = true) (w : wtD d ≤ 16000000) : biD .repr [d] h = .ok (.str (shownOf d)) h := by
  obtain ⟨q, e1, _, e3, _⟩ := plain_py k d p
  obtain ⟨a1, a2, a3⟩ := show_ok k d q p l e1
  have e4 : toPyH h d = some q := toPyH_of e1
  show reprD d h = _
  unfold reprD shownOf
  rw [e4, e1]
  have sq : isSq d = true := by rcases s with s | s <;> (rw [s]; rfl)
  rw [sq]
  dsimp only
  rw [a1, a2, decide_eq_true (show q.depth ≤ 60 by omega), decide_eq_true (show q.shown.length ≤ LIM from Nat.le_trans a3 (Nat.le_trans w (by decide)))]
  rfl
theorem shownOf_ok {k : Nat} {d : D} (p : plainD k d = true) : PyData.strOk (shownOf d) = true := by
  obtain ⟨q, e1, _⟩ := plain_py k d p
  unfold shownOf
  rw [e1]
  exact shown_sig k d q p e1

/-! Mini 22: classes of exceptions and tuples of texts of a module. -/
section
variable {K : PySem.W.Frag} {mg : Str → Option Value} {h0 : Heap} {x : Str}
def ExcK (K : PySem.W.Frag) (x : Str) : Prop := ∃ C, PySem.W.nsIn K mainGlobals x = some (some (.ref C)) ∧ PySem.W.excIn K C [.type "ValueError", .type "Exception", .type "BaseException", .type "object"] "ValueError.__new__" = true ∧ PySem.W.keepIn K (.ref C) = true ∧
  PySem.W.subIn K (.ref C) (.type "BaseException") = some true ∧ PySem.W.typeIn K (.ref C) = some (.type "type")
theorem exc_mk {C : Addr} (a : PySem.W.nsIn K mainGlobals x = some (some (.ref C))) (b : PySem.W.excIn K C [.type "ValueError", .type "Exception", .type "BaseException", .type "object"] "ValueError.__new__" = true) (c : PySem.W.keepIn K (.ref C) = true)
    (d : PySem.W.subIn K (.ref C) (.type "BaseException") = some true) (e : PySem.W.typeIn K (.ref C) = some (.type "type")) : ExcK K x := ⟨C, a, b, c, d, e⟩
theorem exc_of (X : K.In h0) (G : h0.Ns mainGlobals mg) (e : ExcK K x) : ExcAt K mg x := by
  obtain ⟨C, a, b, c, d, e⟩ := e
  exact ⟨C, PySem.W.mg_of X G a, a, b, c, d, e⟩
def ExmK (K : PySem.W.Frag) (x y : Str) : Prop := ∃ Cx Cy, PySem.W.nsIn K mainGlobals x = some (some (.ref Cx)) ∧ PySem.W.nsIn K mainGlobals y = some (some (.ref Cy)) ∧ PySem.W.exmOne K (.ref Cx) (.ref Cy) = some (subX x y)
theorem exm_mk {x y : Str} {t : Bool} {Cx Cy : Addr} (a : PySem.W.nsIn K mainGlobals x = some (some (.ref Cx))) (b : PySem.W.nsIn K mainGlobals y = some (some (.ref Cy))) (c : PySem.W.exmOne K (.ref Cx) (.ref Cy) = some t) (e : subX x y = t) : ExmK K x y := ⟨Cx, Cy, a, b, by rw [e]; exact c⟩
theorem exm_of {x y : Str} (X : K.In h0) (G : h0.Ns mainGlobals mg) (e : ExmK K x y) : ExmAt K mg (x, y) := by
  obtain ⟨Cx, Cy, a, b, c⟩ := e
  exact ⟨Cx, Cy, a, PySem.W.mg_of X G b, c⟩
theorem all_one {α : Type} {p : α → Prop} {x : α} (h : p x) : ∀ y ∈ [x], p y := fun y hy => by
  rw [List.mem_singleton.mp hy]
  exact h
theorem all_and {α : Type} {p : α → Prop} {x : α} {l : List α} (h : p x) (r : ∀ y ∈ l, p y) : ∀ y ∈ x :: l, p y := fun y hy => by
  rcases List.mem_cons.mp hy with e | e
  · rw [e]; exact h
  · exact r y e
theorem all_nil {α : Type} {p : α → Prop} : ∀ y ∈ ([] : List α), p y := fun y hy => by cases hy
/-- a tuple of texts -/
def StrsAt (K : PySem.W.Frag) (x : Str) (ys : List Str) : Prop := ∃ (a : Addr) (its : Array Value) (n : Nat) (osl : Array (Option Value)), PySem.W.nsIn K mainGlobals x = some (some (.ref a)) ∧ K.lookup a = some ⟨.type "tuple", none, .seq its n, osl⟩ ∧ its.size ≤ sizeLine ∧ Vals (ys.map V.str) its.toList
theorem strs_at {ys : List Str} {a : Addr} {its : Array Value} {n : Nat} {osl : Array (Option Value)} (h1 : PySem.W.nsIn K mainGlobals x = some (some (.ref a))) (h2 : K.lookup a = some ⟨.type "tuple", none, .seq its n, osl⟩) (h3 : its.size ≤ 1000) (h4 : Vals (ys.map V.str) its.toList) : StrsAt K x ys :=
  ⟨a, its, n, osl, h1, h2, by rw [sz]; omega, h4⟩
theorem gl_strs {c : Ctx} {g : Nat} {ys : List Str} (hx : c.glm[g]? = some x) (X : K.In h0) (G : h0.Ns mainGlobals mg) (ha : StrsAt K x ys) : ∃ x u v, c.glm[g]? = some x ∧ mg x = some u ∧ RelV v u ∧ ∀ H ρ M, RD K H ρ M (.tup (ys.map D.str)) v := by
  obtain ⟨a, its, n, osl, h1, h2, h3, h4⟩ := ha
  refine ⟨x, .ref a, .ref a, hx, PySem.W.mg_of X G h1, rfl, fun H ρ M => .tup (.inr ⟨_, its, n, h2, rfl, rfl, rfl, h3, h4⟩) ?_⟩
  clear h4
  induction ys with
  | nil => exact .nil
  | cons y ys ih => exact .cons (.str y) ih
end
/-! ### loops over what is written out -/
section
variable {Γ : Gam} {σ : Sg} {h : Hm} {P : Po} {b x : Blk} {tg : Tg}
theorem k_for {xs : List D} : (Res.ok xs h).wp (KFor Γ tg x b σ P) = wpLoop Γ tg x xs σ h (P.seq Γ b) := (Eq.refl _).trans (Eq.refl _)
def Po.lp (Γ : Gam) (tg : Tg) (x : Blk) (ds : List D) (P : Po) : Po := { P with nx := fun σ' h' => wpLoop Γ tg x ds σ' h' P, ct := fun σ' h' => wpLoop Γ tg x ds σ' h' P, bk := P.nx }
theorem lp_nx {ds : List D} : (P.lp Γ tg x ds).nx σ h = wpLoop Γ tg x ds σ h P := rfl
theorem lp_ct {ds : List D} : (P.lp Γ tg x ds).ct σ h = wpLoop Γ tg x ds σ h P := rfl
theorem lp_bk {ds : List D} : (P.lp Γ tg x ds).bk σ h = P.nx σ h := rfl
theorem lp_rt {ds : List D} : (P.lp Γ tg x ds).rt = P.rt := rfl
theorem lp_xe {ds : List D} : (P.lp Γ tg x ds).xe = P.xe := rfl
theorem loop_nil : wpLoop Γ tg x [] σ h P = P.nx σ h := rfl
theorem loop_v {i : Nat} {d : D} {ds : List D} : wpLoop Γ (.v i) x (d :: ds) σ h P = wpB Γ x (σ.set i (some d)) h (P.lp Γ (.v i) x ds) := rfl
end

/-! Mini 23: decimal texts; texts as lists of codes -/
section

open PySem.NumText

/-- the codes of a number's digits -/
def dg (n : Nat) : List Nat := (Nat.toDigits 10 n).map Char.toNat
theorem dig_code {n : Nat} (h : n < 10) : (Nat.digitChar n).toNat = 48 + n := by
  rcases (show n = 0 ∨ n = 1 ∨ n = 2 ∨ n = 3 ∨ n = 4 ∨ n = 5 ∨ n = 6 ∨ n = 7 ∨ n = 8 ∨ n = 9 by omega) with rfl | rfl | rfl | rfl | rfl | rfl | rfl | rfl | rfl | rfl <;> rfl
theorem dg_if (n : Nat) : dg n = if n < 10 then [48 + n] else dg (n / 10) ++ [48 + n % 10] := by
  unfold dg
  rw [Nat.toDigits_eq_if (by decide)]
  by_cases h : n < 10
  · rw [if_pos h, if_pos h, List.map_cons, List.map_nil, dig_code h]
  · rw [if_neg h, if_neg h, List.map_append, List.map_cons, List.map_nil, dig_code (Nat.mod_lt _ (by decide))]
theorem dg_lt {n : Nat} (h : n < 10) : dg n = [48 + n] := by rw [dg_if, if_pos h]
theorem dg_ge {n : Nat} (h : 10 ≤ n) : dg n = dg (n / 10) ++ [48 + n % 10] := by rw [dg_if, if_neg (by omega)]
theorem dg_ne (n : Nat) : dg n ≠ [] := by
  by_cases h : n < 10
  · rw [dg_lt h]; simp
  · rw [dg_ge (by omega)]; simp
theorem dg_all (n : Nat) : AllDigits (dg n) := by
  induction n using Nat.strongRecOn with
  | _ n ih =>
    by_cases h : n < 10
    · rw [dg_lt h]
      intro c hc
      rw [List.mem_singleton.mp hc]
      omega
    · rw [dg_ge (by omega)]
      intro c hc
      rcases List.mem_append.mp hc with hc | hc
      · exact ih (n / 10) (by omega) c hc
      · rw [List.mem_singleton.mp hc]
        omega
theorem dv_app (cs : List Nat) (c : Nat) : digitsVal (cs ++ [c]) = digitsVal cs * 10 + (c - 48) := by
  unfold digitsVal
  rw [List.foldl_append]
  rfl
theorem dg_val (n : Nat) : digitsVal (dg n) = n := by
  induction n using Nat.strongRecOn with
  | _ n ih =>
    by_cases h : n < 10
    · rw [dg_lt h]
      show 0 * 10 + (48 + n - 48) = n
      omega
    · rw [dg_ge (by omega), dv_app, ih (n / 10) (by omega)]
      omega
/-- the first digit of what is above 0 is none -/
theorem dg_head {n : Nat} (h : 0 < n) : ∃ c cs, dg n = c :: cs ∧ 49 ≤ c ∧ c ≤ 57 := by
  induction n using Nat.strongRecOn with
  | _ n ih =>
    by_cases h10 : n < 10
    · exact ⟨48 + n, [], dg_lt h10, by omega, by omega⟩
    · obtain ⟨c, cs, e, h1, h2⟩ := ih (n / 10) (by omega) (by omega)
      exact ⟨c, cs ++ [48 + n % 10], by rw [dg_ge (by omega), e]; rfl, h1, h2⟩
/-- so many digits -/
def pad : Nat → Nat → List Nat
  | 0, _ => []
  | k + 1, n => (48 + n / 10 ^ k % 10) :: pad k (n % 10 ^ k)
theorem pad_len : ∀ (k n : Nat), (pad k n).length = k
  | 0, _ => rfl
  | k + 1, n => by rw [pad, List.length_cons, pad_len k]
theorem pad_all : ∀ (k n : Nat), AllDigits (pad k n)
  | 0, _ => fun c hc => by cases hc
  | k + 1, n => fun c hc => by
    rw [pad] at hc
    rcases List.mem_cons.mp hc with rfl | hc
    · omega
    · exact pad_all k _ c hc
theorem pad_app : ∀ (k n : Nat), pad (k + 1) n = pad k (n / 10) ++ [48 + n % 10]
  | 0, n => by simp [pad]
  | k + 1, n => by
    have ih := pad_app k (n % 10 ^ (k + 1))
    have e1 : pad (k + 2) n = (48 + n / 10 ^ (k + 1) % 10) :: pad (k + 1) (n % 10 ^ (k + 1)) := rfl
    have e2 : pad (k + 1) (n / 10) = (48 + n / 10 / 10 ^ k % 10) :: pad k (n / 10 % 10 ^ k) := rfl
    rw [e1, ih, e2, List.cons_append, Nat.div_div_eq_div_mul]
    have p10 : 10 ^ (k + 1) = 10 * 10 ^ k := Nat.pow_succ'
    rw [p10, show n % (10 * 10 ^ k) / 10 = n / 10 % 10 ^ k from Nat.mod_mul_right_div_self n 10 (10 ^ k), show n % (10 * 10 ^ k) % 10 = n % 10 from Nat.mod_mul_right_mod n 10 (10 ^ k)]
/-- a one ahead of so many digits -/
theorem dg_one : ∀ (k r : Nat), r < 10 ^ k → dg (10 ^ k + r) = 49 :: pad k r
  | 0, r, h => by
    rw [Nat.pow_zero] at h
    obtain rfl : r = 0 := by omega
    exact dg_lt (by decide)
  | k + 1, r, h => by
    have p10 : 10 ^ (k + 1) = 10 * 10 ^ k := Nat.pow_succ'
    have pp : 1 ≤ 10 ^ k := Nat.one_le_pow _ _ (by decide)
    rw [dg_ge (by omega), show (10 ^ (k + 1) + r) / 10 = 10 ^ k + r / 10 by omega, show (10 ^ (k + 1) + r) % 10 = r % 10 by omega, dg_one k (r / 10) (by omega), pad_app]
    rfl
theorem dv_go : ∀ (cs : List Nat) (a : Nat), cs.foldl (fun acc c => acc * 10 + (c - 48)) a = a * 10 ^ cs.length + digitsVal cs
  | [], a => by simp [digitsVal]
  | c :: cs, a => by
    have e : digitsVal (c :: cs) = cs.foldl (fun acc c => acc * 10 + (c - 48)) (0 * 10 + (c - 48)) := rfl
    rw [List.foldl_cons, dv_go cs, e, dv_go cs, List.length_cons, Nat.pow_succ']
    rw [Nat.zero_mul, Nat.zero_add, Nat.add_mul, Nat.mul_assoc, Nat.add_assoc]
theorem dv_cons (c : Nat) (cs : List Nat) : digitsVal (c :: cs) = (c - 48) * 10 ^ cs.length + digitsVal cs := by
  have e : digitsVal (c :: cs) = cs.foldl (fun acc c => acc * 10 + (c - 48)) (0 * 10 + (c - 48)) := rfl
  rw [e, dv_go, Nat.zero_mul, Nat.zero_add]
theorem pad_val : ∀ (k n : Nat), n < 10 ^ k → digitsVal (pad k n) = n
  | 0, n, h => by
    rw [Nat.pow_zero] at h
    obtain rfl : n = 0 := by omega
    rfl
  | k + 1, n, h => by
    have p10 : 10 ^ (k + 1) = 10 * 10 ^ k := Nat.pow_succ'
    have pp : 0 < 10 ^ k := Nat.pow_pos (by decide)
    have l : n / 10 ^ k < 10 := by rw [Nat.div_lt_iff_lt_mul pp]; omega
    rw [pad, dv_cons, pad_len, pad_val k _ (Nat.mod_lt _ pp), Nat.mod_eq_of_lt l, Nat.add_sub_cancel_left, Nat.mul_comm]
    exact Nat.div_add_mod n (10 ^ k)
/-- long division: the digits of r / b, one by one -/
def longd (b : Nat) : Nat → Nat → List Nat
  | 0, _ => []
  | k + 1, r => (48 + 10 * r / b) :: longd b k (10 * r % b)
theorem long_pad {b : Nat} (hb : 0 < b) : ∀ (k r : Nat), r < b → b ∣ r * 10 ^ k → longd b k r = pad k (r * 10 ^ k / b)
  | 0, r, h, d => rfl
  | k + 1, r, h, d => by
    have pp : 0 < 10 ^ k := Nat.pow_pos (by decide)
    have l : 10 * r % b < b := Nat.mod_lt _ hb
    have e0 : r * 10 ^ (k + 1) = (b * (10 * r / b) + 10 * r % b) * 10 ^ k := by
      rw [Nat.div_add_mod, Nat.pow_succ', Nat.mul_comm 10 r, Nat.mul_assoc]
    have d2 : b ∣ 10 * r % b * 10 ^ k := by
      rw [e0, Nat.add_mul, Nat.mul_assoc] at d
      exact (Nat.dvd_add_right (Nat.dvd_mul_right b _)).mp d
    have e1 : r * 10 ^ (k + 1) / b = 10 * r / b * 10 ^ k + 10 * r % b * 10 ^ k / b := by
      rw [e0, Nat.add_mul, Nat.mul_assoc, Nat.mul_add_div hb]
    have l2 : 10 * r % b * 10 ^ k / b < 10 ^ k := by
      rw [Nat.div_lt_iff_lt_mul hb, Nat.mul_comm (10 ^ k) b]
      exact Nat.mul_lt_mul_of_pos_right l pp
    have q10 : 10 * r / b < 10 := by
      rw [Nat.div_lt_iff_lt_mul hb]
      exact Nat.mul_lt_mul_of_pos_left h (by decide)
    show (48 + 10 * r / b) :: longd b k (10 * r % b) = (48 + r * 10 ^ (k + 1) / b / 10 ^ k % 10) :: pad k (r * 10 ^ (k + 1) / b % 10 ^ k)
    rw [long_pad hb k _ l d2, e1, Nat.mul_comm (10 * r / b), Nat.mul_add_div pp, Nat.div_eq_of_lt l2, Nat.add_zero, Nat.mod_eq_of_lt q10, Nat.mul_add_mod, Nat.mod_eq_of_lt l2]
/-- the rest behind so many digits -/
theorem rest_of {b : Nat} (r j : Nat) : 10 * (r * 10 ^ j % b) % b = r * 10 ^ (j + 1) % b := by
  rw [Nat.mul_mod, Nat.mod_mod, ← Nat.mul_mod, Nat.mul_comm 10 (r * 10 ^ j), Nat.pow_succ, Nat.mul_assoc]
theorem whole_of {b t k : Nat} (hb : 0 < b) (d : b ∣ 10 ^ k) : t * (10 ^ k / b) / 10 ^ k = t / b ∧ t * (10 ^ k / b) % 10 ^ k = t % b * 10 ^ k / b := by
  obtain ⟨m, e⟩ := d
  have pp : 0 < 10 ^ k := Nat.pow_pos (by decide)
  have hm : 0 < m := by
    rcases Nat.eq_zero_or_pos m with rfl | h
    · rw [Nat.mul_zero] at e; omega
    · exact h
  rw [e, Nat.mul_div_cancel_left _ hb]
  constructor
  · rw [Nat.mul_comm b m, Nat.mul_comm t m, Nat.mul_div_mul_left _ _ hm]
  · rw [Nat.mul_comm b m, Nat.mul_comm t m, Nat.mul_mod_mul_left, ← Nat.mul_assoc, Nat.mul_div_cancel _ hb, Nat.mul_comm]

/-- one pass of the program -/
def pas2 (l : Nat) : Nat := if l % 2 = 0 then l / 2 else l
def pas5 (l : Nat) : Nat := if l % 5 = 0 then l / 5 else l
def pass (l : Nat) : Nat := pas5 (pas2 l)
theorem pass_form {l : Nat} (h : l % 2 = 0 ∨ l % 5 = 0) : (l = pass l * 10) ∨ (l = pass l * 2 ∧ l % 5 ≠ 0) ∨ (l = pass l * 5 ∧ l % 2 ≠ 0) := by
  unfold pass pas5 pas2
  by_cases h2 : l % 2 = 0
  · rw [if_pos h2]
    by_cases h5 : l / 2 % 5 = 0
    · rw [if_pos h5]; omega
    · rw [if_neg h5]; omega
  · rw [if_neg h2]
    by_cases h5 : l % 5 = 0
    · rw [if_pos h5]; omega
    · omega
theorem pass_lt {l : Nat} (h0 : 0 < l) (h : l % 2 = 0 ∨ l % 5 = 0) : 0 < pass l ∧ pass l * 2 ≤ l := by
  rcases pass_form h with e | ⟨e, _⟩ | ⟨e, _⟩ <;> omega
theorem cop5 {l : Nat} (h : l % 5 ≠ 0) : Nat.Coprime l 5 := by
  rw [Nat.coprime_comm]
  refine (Nat.Coprime.symm ?_).symm
  rw [Nat.coprime_iff_gcd_eq_one]
  have d : Nat.gcd 5 l ∣ 5 := Nat.gcd_dvd_left 5 l
  have le := Nat.le_of_dvd (by decide) d
  have dl : Nat.gcd 5 l ∣ l := Nat.gcd_dvd_right 5 l
  rcases (show Nat.gcd 5 l = 0 ∨ Nat.gcd 5 l = 1 ∨ Nat.gcd 5 l = 2 ∨ Nat.gcd 5 l = 3 ∨ Nat.gcd 5 l = 4 ∨ Nat.gcd 5 l = 5 by omega) with e | e | e | e | e | e <;> rw [e] at d dl <;> first | exact e | omega
theorem cop2 {l : Nat} (h : l % 2 ≠ 0) : Nat.Coprime l 2 := by
  rw [Nat.coprime_comm, Nat.coprime_iff_gcd_eq_one]
  have d : Nat.gcd 2 l ∣ 2 := Nat.gcd_dvd_left 2 l
  have le := Nat.le_of_dvd (by decide) d
  have dl : Nat.gcd 2 l ∣ l := Nat.gcd_dvd_right 2 l
  rcases (show Nat.gcd 2 l = 0 ∨ Nat.gcd 2 l = 1 ∨ Nat.gcd 2 l = 2 by omega) with e | e | e <;> rw [e] at d dl <;> first | exact e | omega
theorem pass_dvd {l : Nat} (h : l % 2 = 0 ∨ l % 5 = 0) (K : Nat) : l ∣ 10 ^ (K + 1) ↔ pass l ∣ 10 ^ K := by
  have p : 10 ^ (K + 1) = 10 ^ K * 10 := Nat.pow_succ 10 K
  generalize e0 : pass l = m
  have f := pass_form h
  rw [e0] at f
  constructor
  · intro d
    rcases f with e | ⟨e, n⟩ | ⟨e, n⟩
    · rw [e, p] at d
      exact Nat.dvd_of_mul_dvd_mul_right (by decide) d
    · have d2 : m * 2 ∣ 10 ^ K * 5 * 2 := by rw [← e, Nat.mul_assoc]; exact p ▸ d
      have d3 := Nat.dvd_of_mul_dvd_mul_right (by decide) d2
      exact Nat.Coprime.dvd_of_dvd_mul_right (cop5 (by omega)) d3
    · have d2 : m * 5 ∣ 10 ^ K * 2 * 5 := by rw [← e, Nat.mul_assoc]; exact p ▸ d
      have d3 := Nat.dvd_of_mul_dvd_mul_right (by decide) d2
      exact Nat.Coprime.dvd_of_dvd_mul_right (cop2 (by omega)) d3
  · intro d
    have d10 : m * 10 ∣ 10 ^ (K + 1) := by rw [p]; exact Nat.mul_dvd_mul_right d 10
    rcases f with e | ⟨e, _⟩ | ⟨e, _⟩
    · rw [e]; exact d10
    · exact Nat.dvd_trans ⟨5, by rw [e, Nat.mul_assoc]⟩ d10
    · exact Nat.dvd_trans ⟨2, by rw [e, Nat.mul_assoc]⟩ d10
/-- what is neither even nor a multiple of five, and no one, is told by no digits -/
theorem cop_none {l : Nat} (h2 : l % 2 ≠ 0) (h5 : l % 5 ≠ 0) (K : Nat) (d : l ∣ 10 ^ K) : l = 1 := by
  have c : Nat.Coprime l (2 * 5) := Nat.Coprime.mul_right (cop2 h2) (cop5 h5)
  have c2 : Nat.Coprime l (10 ^ K) := Nat.Coprime.pow_right K c
  rw [Nat.coprime_iff_gcd_eq_one, Nat.gcd_eq_left d] at c2
  exact c2
/-- how many digits tell fractions of a bottom -/
structure PlInv (b p l : Nat) : Prop where
  pos : 0 < l
  iff : ∀ K, b ∣ 10 ^ (K + p) ↔ l ∣ 10 ^ K
  few : ∀ j, j < p → ¬ b ∣ 10 ^ j
theorem pl_0 {b : Nat} (h : 0 < b) : PlInv b 0 b := ⟨h, fun K => Iff.rfl, fun j hj => absurd hj (Nat.not_lt_zero _)⟩
theorem pl_step {b p l : Nat} (i : PlInv b p l) (h1 : 1 < l) (h : l % 2 = 0 ∨ l % 5 = 0) : PlInv b (p + 1) (pass l) := by
  refine ⟨(pass_lt i.pos h).1, fun K => ?_, fun j hj d => ?_⟩
  · rw [show K + (p + 1) = (K + 1) + p by omega, i.iff (K + 1)]
    exact pass_dvd h K
  · by_cases q : j = p
    · subst q
      have := (i.iff 0).mp (by rw [Nat.zero_add]; exact d)
      rw [Nat.pow_zero] at this
      have := Nat.le_of_dvd (by decide) this
      omega
    · exact i.few j (by omega) d
theorem pl_one {b p l : Nat} (i : PlInv b p l) (h : l = 1) : b ∣ 10 ^ p ∧ ∀ j, j < p → ¬ b ∣ 10 ^ j := by
  refine ⟨?_, i.few⟩
  have := (i.iff 0).mpr (by rw [h]; exact Nat.one_dvd _)
  rwa [Nat.zero_add] at this
theorem pl_none {b p l : Nat} (i : PlInv b p l) (h : l ≠ 1) (h2 : l % 2 ≠ 0) (h5 : l % 5 ≠ 0) (j : Nat) : ¬ b ∣ 10 ^ j := by
  intro d
  by_cases q : j < p
  · exact i.few j q d
  · have := (i.iff (j - p)).mp (by rw [show j - p + p = j by omega]; exact d)
    exact h (cop_none h2 h5 _ this)
/-- one round of the law's own look -/
def rnd (l : Nat) : Nat := if l % 2 = 0 then l / 2 else if l % 5 = 0 then l / 5 else l
structure RnInv (b n l : Nat) : Prop where
  pos : 0 < l
  iff : (∃ K, b ∣ 10 ^ K) ↔ ∃ K, l ∣ 10 ^ K
  sz : (l % 2 ≠ 0 ∧ l % 5 ≠ 0) ∨ l * 2 ^ n ≤ b
theorem rn_0 {b : Nat} (h : 0 < b) : RnInv b 0 b := ⟨h, Iff.rfl, .inr (by rw [Nat.pow_zero, Nat.mul_one]; exact Nat.le_refl _)⟩
theorem ex_mul {l m c : Nat} (hc : c ∣ 10) (e : l = m * c) : (∃ K, l ∣ 10 ^ K) ↔ ∃ K, m ∣ 10 ^ K := by
  constructor
  · rintro ⟨K, d⟩
    exact ⟨K, Nat.dvd_trans ⟨c, e⟩ d⟩
  · rintro ⟨K, d⟩
    refine ⟨K + 1, ?_⟩
    rw [e, Nat.pow_succ]
    exact Nat.mul_dvd_mul d hc
theorem rn_step {b n l : Nat} (i : RnInv b n l) : RnInv b (n + 1) (rnd l) := by
  have hp := i.pos
  unfold rnd
  by_cases h2 : l % 2 = 0
  · rw [if_pos h2]
    refine ⟨by omega, i.iff.trans (ex_mul ⟨5, rfl⟩ (show l = l / 2 * 2 by omega)), .inr ?_⟩
    rcases i.sz with h | h
    · exact absurd h2 h.1
    · refine Nat.le_trans ?_ h
      rw [Nat.pow_succ', ← Nat.mul_assoc]
      exact Nat.mul_le_mul_right _ (by omega)
  · rw [if_neg h2]
    by_cases h5 : l % 5 = 0
    · rw [if_pos h5]
      refine ⟨by omega, i.iff.trans (ex_mul ⟨2, rfl⟩ (show l = l / 5 * 5 by omega)), .inr ?_⟩
      rcases i.sz with h | h
      · exact absurd h5 h.2
      · refine Nat.le_trans ?_ h
        rw [Nat.pow_succ', ← Nat.mul_assoc]
        exact Nat.mul_le_mul_right _ (by omega)
    · rw [if_neg h5]
      exact ⟨hp, i.iff, .inl ⟨h2, h5⟩⟩
theorem rn_end {b n l : Nat} (i : RnInv b n l) (h : b < 2 ^ n) : l ≤ 1 ↔ ∃ K, b ∣ 10 ^ K := by
  have hp := i.pos
  rw [i.iff]
  rcases i.sz with c | c
  · constructor
    · intro h1
      exact ⟨0, by rw [show l = 1 by omega]; exact Nat.one_dvd _⟩
    · rintro ⟨K, d⟩
      rw [cop_none c.1 c.2 K d]
      exact Nat.le_refl _
  · have : 1 * 2 ^ n ≤ l * 2 ^ n := Nat.mul_le_mul_right _ hp
    omega

/-! texts by their codes -/
def TX (cs : List Nat) : Str := ⟨cs.toArray⟩
theorem TX_cps (cs : List Nat) : (TX cs).cps.toList = cs := rfl
theorem TX_of (x : Str) : TX x.cps.toList = x := rfl
theorem TX_inj {a b : List Nat} (h : TX a = TX b) : a = b := by
  have := congrArg (fun x : Str => x.cps.toList) h
  exact this
theorem TX_app (a b : List Nat) : TX a ++ TX b = TX (a ++ b) := by
  show (⟨a.toArray ++ b.toArray⟩ : Str) = ⟨(a ++ b).toArray⟩
  rw [List.append_toArray]
theorem TX_len (cs : List Nat) : (TX cs).length = cs.length := by
  show cs.toArray.size = cs.length
  exact List.size_toArray
theorem TX_cut (cs : List Nat) (lo hi : Option Int) : cutS (TX cs) lo hi = TX (cutL cs lo hi) := by
  unfold cutS cutL
  rw [TX_len]
  rfl
theorem TX_eq {a b : List Nat} : (TX a = TX b) ↔ a = b := ⟨TX_inj, fun h => by rw [h]⟩
theorem TX_ok {cs : List Nat} (h : ∀ c ∈ cs, c < 1114112) : PyData.strOk (TX cs) = true := okS.mpr h
theorem lit_TX (s : String) : Str.ofString s = TX (s.toList.map Char.toNat) := by
  rw [Str.ofString_eq_toList]
  rfl
theorem txt_empty : Str.ofString "" = TX [] := by rw [lit_TX]; rfl
theorem txt_minus : Str.ofString "-" = TX [45] := by rw [lit_TX]; rfl
theorem txt_point : Str.ofString "." = TX [46] := by rw [lit_TX]; rfl
theorem txt_stroke : Str.ofString "/" = TX [47] := by rw [lit_TX]; rfl
theorem txt_0 : Str.ofString "0" = TX [48] := by rw [lit_TX]; rfl
theorem txt_digits : Str.ofString "0123456789" = TX [48, 49, 50, 51, 52, 53, 54, 55, 56, 57] := by rw [lit_TX]; rfl
/-- a number's text -/
def sgc (i : Int) : List Nat := if i < 0 then [45] else []
theorem txt_nat (n : Nat) : Str.ofString (toString (n : Int)) = TX (dg n) := by
  rw [← TX_of (Str.ofString _), PySem.W.KIN.signs_num]
  rfl
theorem txt_int (i : Int) : Str.ofString (toString i) = TX (sgc i ++ dg i.natAbs) := by
  cases i with
  | ofNat n => exact txt_nat n
  | negSucc n =>
    have e : toString (Int.negSucc n) = "-" ++ toString (n + 1) := rfl
    have e2 := txt_nat (n + 1)
    rw [lit_TX] at e2 ⊢
    have e2 := TX_inj e2
    rw [e, String.toList_append, List.map_append]
    refine congrArg TX ?_
    rw [show ("-".toList.map Char.toNat) = [45] from rfl, show sgc (Int.negSucc n) = [45] from if_pos (by omega), show (Int.negSucc n).natAbs = n + 1 from rfl, ← e2]
    rfl
theorem dg_len {k n : Nat} (hk : 1 ≤ k) (hn : n < 10 ^ k) : (dg n).length ≤ k := by
  unfold dg
  rw [List.length_map]
  exact toDigits_len_pow (by decide) hk hn
theorem int_digits {cs : List Nat} (h : AllDigits cs) (h1 : cs ≠ []) (h2 : cs.length ≤ 640) : PySem.intText? (TX cs) = some ((digitsVal cs : Nat) : Int) :=
  intText_digits (x := TX cs) h h1 (by rw [TX_len]; omega)
theorem int_neg {cs : List Nat} (h : AllDigits cs) (h1 : cs ≠ []) (h2 : cs.length ≤ 600) : PySem.intText? (TX (45 :: cs)) = some (-((digitsVal cs : Nat) : Int)) :=
  intText_neg (x := TX (45 :: cs)) rfl h h1 (by rw [TX_len, List.length_cons]; omega)
/-- is a digit -/
def isDg (c : Nat) : Bool := decide (48 ≤ c) && decide (c ≤ 57)
theorem in_digits {c : Nat} {h : Hm} : inD (.str (TX [c])) (.str (TX [48, 49, 50, 51, 52, 53, 54, 55, 56, 57])) h = .ok (isDg c) h := by
  show Res.ok (!(Builtin.Str.occurrences (TX [48, 49, 50, 51, 52, 53, 54, 55, 56, 57]) ⟨#[c]⟩ 0 _ 1).isEmpty) h = _
  rw [PySem.StrLaws.found_one]
  congr 1
  rw [TX_cps]
  unfold isDg
  rw [← Bool.decide_and]
  refine decide_eq_decide.mpr ?_
  simp only [List.mem_cons, List.not_mem_nil, or_false]
  omega
end

namespace K02
def top (i : Nat) : Stmt := PySem.Challenge.pw_drawntold_k02_texts_of_fractions.main.body.getD i (.Pass ⟨0, 0, 0, 0⟩)
def fnm : List Str := ("is_integer" : Str) :: ("common" : Str) :: ("lowest" : Str) :: ("is_fraction" : Str) :: ("check_fractions" : Str) :: ("places_of" : Str) :: ("fraction_text" : Str) :: ("digits_end" : Str) :: ("decimal_told" : Str) :: ("quotient_told" : Str) :: ("fraction_told" : Str) :: ("_law_spring" : Str) :: ("_law_drop" : Str) :: ("_law_kinds" : Str) :: ("_law_alike" : Str) :: ("_law_low" : Str) :: ("_law_plus" : Str) :: ("_law_minus" : Str) :: ("_law_times" : Str) :: ("_law_below" : Str) :: ("_law_number" : Str) :: ("_law_above" : Str) :: ("_law_text" : Str) :: ("_law_drawn" : Str) :: ("law" : Str) :: []
def glm : List Str := ("DIGITS" : Str) :: []
abbrev n_is_integer : Nat := 0
abbrev n_common : Nat := 1
abbrev n_lowest : Nat := 2
abbrev n_is_fraction : Nat := 3
abbrev n_check_fractions : Nat := 4
abbrev n_places_of : Nat := 5
abbrev n_fraction_text : Nat := 6
abbrev n_digits_end : Nat := 7
abbrev n_decimal_told : Nat := 8
abbrev n_quotient_told : Nat := 9
abbrev n_fraction_told : Nat := 10
abbrev n_law_spring : Nat := 11
abbrev n_law_drop : Nat := 12
abbrev n_law_kinds : Nat := 13
abbrev n_law_alike : Nat := 14
abbrev n_law_low : Nat := 15
abbrev n_law_plus : Nat := 16
abbrev n_law_minus : Nat := 17
abbrev n_law_times : Nat := 18
abbrev n_law_below : Nat := 19
abbrev n_law_number : Nat := 20
abbrev n_law_above : Nat := 21
abbrev n_law_text : Nat := 22
abbrev n_law_drawn : Nat := 23
abbrev n_law : Nat := 24
/-! is_integer: slots ['value'] -/
abbrev s_is_integer : Stmt := top 5
def c_is_integer : Ctx := ⟨["value"], (defScope s_is_integer).names, none, fnm, glm, [], false, [], []⟩
def b_is_integer : Blk := .cons (.ret (.band (.isi (.v 0) .int) (.bnot (.isi (.v 0) .bool)))) .nil
theorem k_is_integer : chkB b_is_integer c_is_integer (defBody s_is_integer) = true := by decide +kernel
theorem f_is_integer : FnScope ["value"] ["value"] (defScope s_is_integer) := ⟨rfl, rfl, rfl, by decide +kernel, rfl, by decide +kernel, by decide +kernel⟩
/-! common: slots ['one', 'other'] -/
abbrev s_common : Stmt := top 6
def c_common : Ctx := ⟨["one", "other"], (defScope s_common).names, none, fnm, glm, [], false, [], []⟩
def b_common_3 : Blk := .cons (.par 0 1 (.v 1) (.op2 .mod (.v 0) (.v 1))) .nil
def b_common_2 : Blk := .cons (.ret (.v 0)) .nil
def b_common : Blk := .cons (.while_ (.cmp .gt (.v 1) (.int 0)) b_common_3) b_common_2
theorem k_common : chkB b_common c_common (defBody s_common) = true := by decide +kernel
theorem f_common : FnScope ["one", "other"] ["one", "other"] (defScope s_common) := ⟨rfl, rfl, rfl, by decide +kernel, rfl, by decide +kernel, by decide +kernel⟩
/-! lowest: slots ['top', 'bottom', 'factor'] -/
abbrev s_lowest : Stmt := top 9
def c_lowest : Ctx := ⟨["top", "bottom", "factor"], (defScope s_lowest).names, none, fnm, glm, [], false, [], []⟩
def b_lowest_2 : Blk := .cons (.ret (.tup (.cons (.op2 .fdiv (.v 0) (.v 2)) (.cons (.op2 .fdiv (.v 1) (.v 2)) .nil)))) .nil
def b_lowest : Blk := .cons (.set 2 (.op2 .mul (.call n_common (.cons (.bi .abs (.cons (.v 0) .nil)) (.cons (.bi .abs (.cons (.v 1) .nil)) .nil))) (.ifx (.cmp .gt (.v 1) (.int 0)) (.int 1) (.neg (.int 1))))) b_lowest_2
theorem k_lowest : chkB b_lowest c_lowest (defBody s_lowest) = true := by decide +kernel
theorem f_lowest : FnScope ["top", "bottom", "factor"] ["top", "bottom"] (defScope s_lowest) := ⟨rfl, rfl, rfl, by decide +kernel, rfl, by decide +kernel, by decide +kernel⟩
/-! is_fraction: slots ['value'] -/
abbrev s_is_fraction : Stmt := top 10
def c_is_fraction : Ctx := ⟨["value"], (defScope s_is_fraction).names, none, fnm, glm, [], false, [], []⟩
def b_is_fraction_3 : Blk := .cons (.ret (.bl false)) .nil
def b_is_fraction_2 : Blk := .cons (.ret (.band (.cmp .gt (.ix (.v 0) (.int 1)) (.int 0)) (.cmp .eq (.call n_common (.cons (.bi .abs (.cons (.ix (.v 0) (.int 0)) .nil)) (.cons (.ix (.v 0) (.int 1)) .nil))) (.int 1)))) .nil
def b_is_fraction : Blk := .cons (.ife (.bor (.bnot (.isi (.v 0) .tuple)) (.bor (.cmp .ne (.bi .len (.cons (.v 0) .nil)) (.int 2)) (.bor (.bnot (.call n_is_integer (.cons (.ix (.v 0) (.int 0)) .nil))) (.bnot (.call n_is_integer (.cons (.ix (.v 0) (.int 1)) .nil)))))) b_is_fraction_3 .nil) b_is_fraction_2
theorem k_is_fraction : chkB b_is_fraction c_is_fraction (defBody s_is_fraction) = true := by decide +kernel
theorem f_is_fraction : FnScope ["value"] ["value"] (defScope s_is_fraction) := ⟨rfl, rfl, rfl, by decide +kernel, rfl, by decide +kernel, by decide +kernel⟩
/-! check_fractions: slots ['numbers', 'number'] -/
abbrev s_check_fractions : Stmt := top 11
def c_check_fractions : Ctx := ⟨["numbers", "number"], (defScope s_check_fractions).names, none, fnm, glm, [], false, [], []⟩
def b_check_fractions_2 : Blk := .cons .never .nil
def b_check_fractions : Blk := .cons (.ife (.bnot (.bi .all (.cons (.comp false [("number", 1)] (.v 1) (.ex (.v 0)) .nil (.call n_is_fraction (.cons (.v 1) .nil))) .nil))) b_check_fractions_2 .nil) .nil
theorem k_check_fractions : chkB b_check_fractions c_check_fractions (defBody s_check_fractions) = true := by decide +kernel
theorem f_check_fractions : FnScope ["numbers", "number"] ["numbers"] (defScope s_check_fractions) := ⟨rfl, rfl, rfl, by decide +kernel, rfl, by decide +kernel, by decide +kernel⟩
/-! places_of: slots ['bottom', 'places', 'left', 'prime'] -/
abbrev s_places_of : Stmt := top 12
def c_places_of : Ctx := ⟨["bottom", "places", "left", "prime"], (defScope s_places_of).names, none, fnm, glm, [], false, [], []⟩
def b_places_of_8 : Blk := .cons (.set 2 (.op2 .fdiv (.v 2) (.v 3))) .nil
def b_places_of_7 : Blk := .cons (.ife (.cmp .eq (.op2 .mod (.v 2) (.v 3)) (.int 0)) b_places_of_8 .nil) .nil
def b_places_of_6 : Blk := .cons (.augI 1 (.int 1)) .nil
def b_places_of_5 : Blk := .cons (.for_ (.v 3) (.ex (.tup (.cons (.int 2) (.cons (.int 5) .nil)))) b_places_of_7) b_places_of_6
def b_places_of_4 : Blk := .cons (.ret (.ifx (.cmp .eq (.v 2) (.int 1)) (.v 1) .non)) .nil
def b_places_of_3 : Blk := .cons (.while_ (.band (.cmp .gt (.v 2) (.int 1)) (.bor (.cmp .eq (.op2 .mod (.v 2) (.int 2)) (.int 0)) (.cmp .eq (.op2 .mod (.v 2) (.int 5)) (.int 0)))) b_places_of_5) b_places_of_4
def b_places_of_2 : Blk := .cons (.set 2 (.v 0)) b_places_of_3
def b_places_of : Blk := .cons (.set 1 (.int 0)) b_places_of_2
theorem k_places_of : chkB b_places_of c_places_of (defBody s_places_of) = true := by decide +kernel
theorem f_places_of : FnScope ["bottom", "places", "left", "prime"] ["bottom"] (defScope s_places_of) := ⟨rfl, rfl, rfl, by decide +kernel, rfl, by decide +kernel, by decide +kernel⟩
/-! fraction_text: slots ['number', 'top', 'bottom', 'places', 'power', 'turn', 'whole', 'rest'] -/
abbrev s_fraction_text : Stmt := top 13
def c_fraction_text : Ctx := ⟨["number", "top", "bottom", "places", "power", "turn", "whole", "rest"], (defScope s_fraction_text).names, none, fnm, glm, [], false, [], []⟩
def b_fraction_text_9 : Blk := .cons (.ret (.ifx (.cmp .eq (.v 3) (.int 0)) (.bi .str (.cons (.v 1) .nil)) (.op2 .add (.op2 .add (.bi .str (.cons (.v 1) .nil)) (.str "/")) (.bi .str (.cons (.v 2) .nil))))) .nil
def b_fraction_text_10 : Blk := .cons (.set 4 (.op2 .mul (.v 4) (.int 10))) .nil
def b_fraction_text_8 : Blk := .cons (.ret (.op2 .add (.op2 .add (.op2 .add (.ifx (.cmp .lt (.v 1) (.int 0)) (.str "-") (.str "")) (.bi .str (.cons (.v 6) .nil))) (.str ".")) (.slice (.bi .str (.cons (.op2 .add (.v 4) (.v 7)) .nil)) (.some (.int 1)) .none))) .nil
def b_fraction_text_7 : Blk := .cons (.par 6 7 (.op2 .fdiv (.op2 .mul (.bi .abs (.cons (.v 1) .nil)) (.op2 .fdiv (.v 4) (.v 2))) (.v 4)) (.op2 .mod (.op2 .mul (.bi .abs (.cons (.v 1) .nil)) (.op2 .fdiv (.v 4) (.v 2))) (.v 4))) b_fraction_text_8
def b_fraction_text_6 : Blk := .cons (.for_ (.v 5) (.rng1 (.v 3)) b_fraction_text_10) b_fraction_text_7
def b_fraction_text_5 : Blk := .cons (.set 4 (.int 1)) b_fraction_text_6
def b_fraction_text_4 : Blk := .cons (.ife (.bor (.isN (.v 3)) (.cmp .eq (.v 3) (.int 0))) b_fraction_text_9 .nil) b_fraction_text_5
def b_fraction_text_3 : Blk := .cons (.set 3 (.call n_places_of (.cons (.v 2) .nil))) b_fraction_text_4
def b_fraction_text_2 : Blk := .cons (.asg [1, 2] (.v 0)) b_fraction_text_3
def b_fraction_text : Blk := .cons (.ex (.call n_check_fractions (.cons (.tup (.cons (.v 0) .nil)) .nil))) b_fraction_text_2
theorem k_fraction_text : chkB b_fraction_text c_fraction_text (defBody s_fraction_text) = true := by decide +kernel
theorem f_fraction_text : FnScope ["number", "top", "bottom", "places", "power", "turn", "whole", "rest"] ["number"] (defScope s_fraction_text) := ⟨rfl, rfl, rfl, by decide +kernel, rfl, by decide +kernel, by decide +kernel⟩
/-! digits_end: slots ['text', 'at'] -/
abbrev s_digits_end : Stmt := top 14
def c_digits_end : Ctx := ⟨["text", "at"], (defScope s_digits_end).names, none, fnm, glm, [], false, [], []⟩
def b_digits_end_3 : Blk := .cons (.augI 1 (.int 1)) .nil
def b_digits_end_2 : Blk := .cons (.ret (.v 1)) .nil
def b_digits_end : Blk := .cons (.while_ (.band (.cmp .ne (.slice (.v 0) (.some (.v 1)) (.some (.op2 .add (.v 1) (.int 1)))) (.str "")) (.cmp .isin (.ix (.v 0) (.v 1)) (.glob 0))) b_digits_end_3) b_digits_end_2
theorem k_digits_end : chkB b_digits_end c_digits_end (defBody s_digits_end) = true := by decide +kernel
theorem f_digits_end : FnScope ["text", "at"] ["text", "at"] (defScope s_digits_end) := ⟨rfl, rfl, rfl, by decide +kernel, rfl, by decide +kernel, by decide +kernel⟩
/-! decimal_told: slots ['text', 'at', 'end', 'last', 'power', 'turn', 'top'] -/
abbrev s_decimal_told : Stmt := top 15
def c_decimal_told : Ctx := ⟨["text", "at", "end", "last", "power", "turn", "top"], (defScope s_decimal_told).names, none, fnm, glm, [], false, [], []⟩
def b_decimal_told_7 : Blk := .cons .never .nil
def b_decimal_told_8 : Blk := .cons (.set 4 (.op2 .mul (.v 4) (.int 10))) .nil
def b_decimal_told_6 : Blk := .cons (.ret (.call n_lowest (.cons (.ifx (.cmp .eq (.v 1) (.int 1)) (.neg (.v 6)) (.v 6)) (.cons (.v 4) .nil)))) .nil
def b_decimal_told_5 : Blk := .cons (.set 6 (.op2 .add (.op2 .mul (.bi .int (.cons (.slice (.v 0) (.some (.v 1)) (.some (.v 2))) .nil)) (.v 4)) (.bi .int (.cons (.slice (.v 0) (.some (.op2 .add (.v 2) (.int 1))) (.some (.v 3))) .nil)))) b_decimal_told_6
def b_decimal_told_4 : Blk := .cons (.for_ (.v 5) (.rng1 (.op2 .sub (.op2 .sub (.v 3) (.v 2)) (.int 1))) b_decimal_told_8) b_decimal_told_5
def b_decimal_told_3 : Blk := .cons (.set 4 (.int 1)) b_decimal_told_4
def b_decimal_told_2 : Blk := .cons (.ife (.bor (.cmp .lt (.v 3) (.bi .len (.cons (.v 0) .nil))) (.bor (.cmp .eq (.v 3) (.op2 .add (.v 2) (.int 1))) (.cmp .eq (.ix (.v 0) (.op2 .sub (.v 3) (.int 1))) (.str "0")))) b_decimal_told_7 .nil) b_decimal_told_3
def b_decimal_told : Blk := .cons (.set 3 (.call n_digits_end (.cons (.v 0) (.cons (.op2 .add (.v 2) (.int 1)) .nil)))) b_decimal_told_2
theorem k_decimal_told : chkB b_decimal_told c_decimal_told (defBody s_decimal_told) = true := by decide +kernel
theorem f_decimal_told : FnScope ["text", "at", "end", "last", "power", "turn", "top"] ["text", "at", "end"] (defScope s_decimal_told) := ⟨rfl, rfl, rfl, by decide +kernel, rfl, by decide +kernel, by decide +kernel⟩
/-! quotient_told: slots ['text', 'at', 'end', 'last', 'top', 'bottom'] -/
abbrev s_quotient_told : Stmt := top 16
def c_quotient_told : Ctx := ⟨["text", "at", "end", "last", "top", "bottom"], (defScope s_quotient_told).names, none, fnm, glm, [], false, [], []⟩
def b_quotient_told_7 : Blk := .cons .never .nil
def b_quotient_told_8 : Blk := .cons .never .nil
def b_quotient_told_9 : Blk := .cons .never .nil
def b_quotient_told_6 : Blk := .cons (.ret (.tup (.cons (.v 4) (.cons (.v 5) .nil)))) .nil
def b_quotient_told_5 : Blk := .cons (.ife (.bor (.cmp .gt (.call n_common (.cons (.bi .abs (.cons (.v 4) .nil)) (.cons (.v 5) .nil))) (.int 1)) (.notN (.call n_places_of (.cons (.v 5) .nil)))) b_quotient_told_9 .nil) b_quotient_told_6
def b_quotient_told_4 : Blk := .cons (.par 4 5 (.bi .int (.cons (.slice (.v 0) .none (.some (.v 2))) .nil)) (.bi .int (.cons (.slice (.v 0) (.some (.op2 .add (.v 2) (.int 1))) .none) .nil))) b_quotient_told_5
def b_quotient_told_3 : Blk := .cons (.ife (.bor (.cmp .lt (.v 3) (.bi .len (.cons (.v 0) .nil))) (.cmp .eq (.v 3) (.op2 .add (.v 2) (.int 1)))) b_quotient_told_8 .nil) b_quotient_told_4
def b_quotient_told_2 : Blk := .cons (.set 3 (.call n_digits_end (.cons (.v 0) (.cons (.op2 .add (.v 2) (.int 1)) .nil)))) b_quotient_told_3
def b_quotient_told : Blk := .cons (.ife (.cmp .eq (.slice (.v 0) (.some (.op2 .add (.v 2) (.int 1))) (.some (.op2 .add (.v 2) (.int 2)))) (.str "0")) b_quotient_told_7 .nil) b_quotient_told_2
theorem k_quotient_told : chkB b_quotient_told c_quotient_told (defBody s_quotient_told) = true := by decide +kernel
theorem f_quotient_told : FnScope ["text", "at", "end", "last", "top", "bottom"] ["text", "at", "end"] (defScope s_quotient_told) := ⟨rfl, rfl, rfl, by decide +kernel, rfl, by decide +kernel, by decide +kernel⟩
/-! fraction_told: slots ['text', 'at', 'end'] -/
abbrev s_fraction_told : Stmt := top 17
def c_fraction_told : Ctx := ⟨["text", "at", "end"], (defScope s_fraction_told).names, none, fnm, glm, [], false, [], []⟩
def b_fraction_told_9 : Blk := .cons .never .nil
def b_fraction_told_10 : Blk := .cons .never .nil
def b_fraction_told_11 : Blk := .cons (.ret (.call n_decimal_told (.cons (.v 0) (.cons (.v 1) (.cons (.v 2) .nil))))) .nil
def b_fraction_told_12 : Blk := .cons (.ret (.call n_quotient_told (.cons (.v 0) (.cons (.v 1) (.cons (.v 2) .nil))))) .nil
def b_fraction_told_13 : Blk := .cons .never .nil
def b_fraction_told_8 : Blk := .cons (.ret (.tup (.cons (.bi .int (.cons (.v 0) .nil)) (.cons (.int 1) .nil)))) .nil
def b_fraction_told_7 : Blk := .cons (.ife (.bor (.cmp .lt (.v 2) (.bi .len (.cons (.v 0) .nil))) (.band (.cmp .eq (.v 1) (.int 1)) (.cmp .eq (.ix (.v 0) (.v 1)) (.str "0")))) b_fraction_told_13 .nil) b_fraction_told_8
def b_fraction_told_6 : Blk := .cons (.ife (.band (.cmp .eq (.slice (.v 0) (.some (.v 2)) (.some (.op2 .add (.v 2) (.int 1)))) (.str "/")) (.cmp .ne (.ix (.v 0) (.v 1)) (.str "0"))) b_fraction_told_12 .nil) b_fraction_told_7
def b_fraction_told_5 : Blk := .cons (.ife (.cmp .eq (.slice (.v 0) (.some (.v 2)) (.some (.op2 .add (.v 2) (.int 1)))) (.str ".")) b_fraction_told_11 .nil) b_fraction_told_6
def b_fraction_told_4 : Blk := .cons (.ife (.cmp .eq (.v 2) (.v 1)) b_fraction_told_10 .nil) b_fraction_told_5
def b_fraction_told_3 : Blk := .cons (.set 2 (.ifx (.cmp .eq (.slice (.v 0) (.some (.v 1)) (.some (.op2 .add (.v 1) (.int 1)))) (.str "0")) (.op2 .add (.v 1) (.int 1)) (.call n_digits_end (.cons (.v 0) (.cons (.v 1) .nil))))) b_fraction_told_4
def b_fraction_told_2 : Blk := .cons (.set 1 (.bi .int (.cons (.cmp .eq (.slice (.v 0) .none (.some (.int 1))) (.str "-")) .nil))) b_fraction_told_3
def b_fraction_told : Blk := .cons (.ife (.bnot (.isi (.v 0) .str)) b_fraction_told_9 .nil) b_fraction_told_2
theorem k_fraction_told : chkB b_fraction_told c_fraction_told (defBody s_fraction_told) = true := by decide +kernel
theorem f_fraction_told : FnScope ["text", "at", "end"] ["text"] (defScope s_fraction_told) := ⟨rfl, rfl, rfl, by decide +kernel, rfl, by decide +kernel, by decide +kernel⟩
/-! _law_spring: slots ['script', 'great', 'cell', 'mixed'] -/
abbrev s_law_spring : Stmt := top 19
def c_law_spring : Ctx := ⟨["script", "great", "cell", "mixed"], (defScope s_law_spring).names, none, fnm, glm, [], false, [], []⟩
def b_law_spring_5 : Blk := .cons (.set 3 (.op2 .mod (.bi .int (.cons (.op2 .add (.op2 .add (.op2 .mul (.v 3) (.int 982451653)) (.op2 .mul (.v 2) (.int 49979687))) (.int 32452843)) .nil)) (.int 2305843009213693951))) .nil
def b_law_spring_4 : Blk := .cons (.ret (.lstM (.cons (.v 1) (.cons (.v 3) (.cons (.int 0) .nil))))) .nil
def b_law_spring_3 : Blk := .cons (.for_ (.v 2) (.ex (.v 0)) b_law_spring_5) b_law_spring_4
def b_law_spring_2 : Blk := .cons (.set 3 (.op2 .add (.int 15485863) (.op2 .mul (.int 2) (.bi .len (.cons (.v 0) .nil))))) b_law_spring_3
def b_law_spring : Blk := .cons (.set 1 (.comp true [("cell", 2)] (.v 2) (.ex (.v 0)) (.cons (.cmp .ge (.v 2) (.op2 .pow (.int 10) (.int 18))) .nil) (.op2 .sub (.v 2) (.op2 .pow (.int 10) (.int 18))))) b_law_spring_2
theorem k_law_spring : chkB b_law_spring c_law_spring (defBody s_law_spring) = true := by decide +kernel
theorem f_law_spring : FnScope ["script", "great", "cell", "mixed"] ["script"] (defScope s_law_spring) := ⟨rfl, rfl, rfl, by decide +kernel, rfl, by decide +kernel, by decide +kernel⟩
/-! _law_drop: slots ['spring', 'many', 'great', 'found'] -/
abbrev s_law_drop : Stmt := top 20
def c_law_drop : Ctx := ⟨["spring", "many", "great", "found"], (defScope s_law_drop).names, none, fnm, glm, [], false, [], []⟩
def b_law_drop_7 : Blk := .cons (.ex (.meth .popAt (.v 2) (.cons (.int 0) .nil))) .nil
def b_law_drop_10 : Blk := .cons (.ret (.v 3)) .nil
def b_law_drop_9 : Blk := .cons (.setix (.v 2) (.int 0) (.op2 .fdiv (.ix (.v 2) (.int 0)) (.v 1))) b_law_drop_10
def b_law_drop_8 : Blk := .cons (.set 3 (.op2 .mod (.bi .int (.cons (.ix (.v 2) (.int 0)) .nil)) (.v 1))) b_law_drop_9
def b_law_drop_6 : Blk := .cons (.ret (.op2 .mod (.op2 .fdiv (.op2 .mod (.bi .int (.cons (.op2 .mul (.ix (.v 0) (.int 1)) (.ix (.v 0) (.int 1))) .nil)) (.int 2305843009213693921)) (.int 1048576)) (.v 1))) .nil
def b_law_drop_5 : Blk := .cons (.setix (.v 0) (.int 1) (.op2 .mod (.bi .int (.cons (.op2 .add (.op2 .mul (.ix (.v 0) (.int 1)) (.int 6364136223846793005)) (.op2 .mul (.ix (.v 0) (.int 2)) (.int 1442695040888963407))) .nil)) (.int 2305843009213693951))) b_law_drop_6
def b_law_drop_4 : Blk := .cons (.setix (.v 0) (.int 2) (.op2 .add (.ix (.v 0) (.int 2)) (.int 1))) b_law_drop_5
def b_law_drop_3 : Blk := .cons (.ife (.cmp .ne (.v 2) (.lst .nil)) b_law_drop_8 .nil) b_law_drop_4
def b_law_drop_2 : Blk := .cons (.while_ (.band (.cmp .ne (.v 2) (.lst .nil)) (.cmp .eq (.ix (.v 2) (.int 0)) (.int 0))) b_law_drop_7) b_law_drop_3
def b_law_drop : Blk := .cons (.set 2 (.ix (.v 0) (.int 0))) b_law_drop_2
theorem k_law_drop : chkB b_law_drop c_law_drop (defBody s_law_drop) = true := by decide +kernel
theorem f_law_drop : FnScope ["spring", "many", "great", "found"] ["spring", "many"] (defScope s_law_drop) := ⟨rfl, rfl, rfl, by decide +kernel, rfl, by decide +kernel, by decide +kernel⟩
/-! _law_kinds: slots ['thing', 'found'] -/
abbrev s_law_kinds : Stmt := top 21
def c_law_kinds : Ctx := ⟨["thing", "found"], (defScope s_law_kinds).names, none, fnm, glm, [], false, [], []⟩
def b_law_kinds_2 : Blk := .cons (.ret (.op2 .add (.v 1) (.lst (.cons (.isi (.v 0) .tuple) (.cons (.isi (.v 0) .list) (.cons (.isN (.v 0)) .nil)))))) .nil
def b_law_kinds : Blk := .cons (.set 1 (.lst (.cons (.isi (.v 0) .bool) (.cons (.isi (.v 0) .int) (.cons (.isi (.v 0) .str) .nil))))) b_law_kinds_2
theorem k_law_kinds : chkB b_law_kinds c_law_kinds (defBody s_law_kinds) = true := by decide +kernel
theorem f_law_kinds : FnScope ["thing", "found"] ["thing"] (defScope s_law_kinds) := ⟨rfl, rfl, rfl, by decide +kernel, rfl, by decide +kernel, by decide +kernel⟩
/-! _law_alike: slots ['found', 'due', 'k'] -/
abbrev s_law_alike : Stmt := top 22
def c_law_alike : Ctx := ⟨["found", "due", "k"], (defScope s_law_alike).names, none, fnm, glm, [], false, [], []⟩
def b_law_alike_4 : Blk := .cons (.ret (.bl false)) .nil
def b_law_alike_5 : Blk := .cons (.ret (.band (.cmp .eq (.bi .len (.cons (.v 0) .nil)) (.bi .len (.cons (.v 1) .nil))) (.bi .all (.cons (.comp false [("k", 2)] (.v 2) (.rng1 (.bi .len (.cons (.v 1) .nil))) .nil (.call n_law_alike (.cons (.ix (.v 0) (.v 2)) (.cons (.ix (.v 1) (.v 2)) .nil)))) .nil)))) .nil
def b_law_alike_3 : Blk := .cons (.ret (.cmp .eq (.v 0) (.v 1))) .nil
def b_law_alike_2 : Blk := .cons (.ife (.isiT (.v 1) [.tuple, .list]) b_law_alike_5 .nil) b_law_alike_3
def b_law_alike : Blk := .cons (.ife (.cmp .ne (.call n_law_kinds (.cons (.v 0) .nil)) (.call n_law_kinds (.cons (.v 1) .nil))) b_law_alike_4 .nil) b_law_alike_2
theorem k_law_alike : chkB b_law_alike c_law_alike (defBody s_law_alike) = true := by decide +kernel
theorem f_law_alike : FnScope ["found", "due", "k"] ["found", "due"] (defScope s_law_alike) := ⟨rfl, rfl, rfl, by decide +kernel, rfl, by decide +kernel, by decide +kernel⟩
/-! _law_low: slots ['top', 'bottom', 'one', 'other'] -/
abbrev s_law_low : Stmt := top 23
def c_law_low : Ctx := ⟨["top", "bottom", "one", "other"], (defScope s_law_low).names, none, fnm, glm, [], false, [], []⟩
def b_law_low_5 : Blk := .cons (.par 2 3 (.v 3) (.op2 .mod (.bi .int (.cons (.v 2) .nil)) (.v 3))) .nil
def b_law_low_4 : Blk := .cons (.ret (.tup (.cons (.op2 .fdiv (.v 0) (.v 2)) (.cons (.op2 .fdiv (.v 1) (.v 2)) .nil)))) .nil
def b_law_low_3 : Blk := .cons (.set 2 (.ifx (.cmp .gt (.v 1) (.int 0)) (.v 2) (.neg (.v 2)))) b_law_low_4
def b_law_low_2 : Blk := .cons (.while_ (.cmp .gt (.v 3) (.int 0)) b_law_low_5) b_law_low_3
def b_law_low : Blk := .cons (.par 2 3 (.bi .abs (.cons (.v 0) .nil)) (.bi .abs (.cons (.v 1) .nil))) b_law_low_2
theorem k_law_low : chkB b_law_low c_law_low (defBody s_law_low) = true := by decide +kernel
theorem f_law_low : FnScope ["top", "bottom", "one", "other"] ["top", "bottom"] (defScope s_law_low) := ⟨rfl, rfl, rfl, by decide +kernel, rfl, by decide +kernel, by decide +kernel⟩
/-! _law_plus: slots ['one', 'other'] -/
abbrev s_law_plus : Stmt := top 24
def c_law_plus : Ctx := ⟨["one", "other"], (defScope s_law_plus).names, none, fnm, glm, [], false, [], []⟩
def b_law_plus : Blk := .cons (.ret (.call n_law_low (.cons (.op2 .add (.op2 .mul (.ix (.v 0) (.int 0)) (.ix (.v 1) (.int 1))) (.op2 .mul (.ix (.v 1) (.int 0)) (.ix (.v 0) (.int 1)))) (.cons (.op2 .mul (.ix (.v 0) (.int 1)) (.ix (.v 1) (.int 1))) .nil)))) .nil
theorem k_law_plus : chkB b_law_plus c_law_plus (defBody s_law_plus) = true := by decide +kernel
theorem f_law_plus : FnScope ["one", "other"] ["one", "other"] (defScope s_law_plus) := ⟨rfl, rfl, rfl, by decide +kernel, rfl, by decide +kernel, by decide +kernel⟩
/-! _law_minus: slots ['one', 'other'] -/
abbrev s_law_minus : Stmt := top 25
def c_law_minus : Ctx := ⟨["one", "other"], (defScope s_law_minus).names, none, fnm, glm, [], false, [], []⟩
def b_law_minus : Blk := .cons (.ret (.call n_law_plus (.cons (.v 0) (.cons (.tup (.cons (.neg (.ix (.v 1) (.int 0))) (.cons (.ix (.v 1) (.int 1)) .nil))) .nil)))) .nil
theorem k_law_minus : chkB b_law_minus c_law_minus (defBody s_law_minus) = true := by decide +kernel
theorem f_law_minus : FnScope ["one", "other"] ["one", "other"] (defScope s_law_minus) := ⟨rfl, rfl, rfl, by decide +kernel, rfl, by decide +kernel, by decide +kernel⟩
/-! _law_times: slots ['one', 'other'] -/
abbrev s_law_times : Stmt := top 26
def c_law_times : Ctx := ⟨["one", "other"], (defScope s_law_times).names, none, fnm, glm, [], false, [], []⟩
def b_law_times : Blk := .cons (.ret (.call n_law_low (.cons (.op2 .mul (.ix (.v 0) (.int 0)) (.ix (.v 1) (.int 0))) (.cons (.op2 .mul (.ix (.v 0) (.int 1)) (.ix (.v 1) (.int 1))) .nil)))) .nil
theorem k_law_times : chkB b_law_times c_law_times (defBody s_law_times) = true := by decide +kernel
theorem f_law_times : FnScope ["one", "other"] ["one", "other"] (defScope s_law_times) := ⟨rfl, rfl, rfl, by decide +kernel, rfl, by decide +kernel, by decide +kernel⟩
/-! _law_below: slots ['one', 'other'] -/
abbrev s_law_below : Stmt := top 27
def c_law_below : Ctx := ⟨["one", "other"], (defScope s_law_below).names, none, fnm, glm, [], false, [], []⟩
def b_law_below : Blk := .cons (.ret (.cmp .lt (.op2 .mul (.ix (.v 0) (.int 0)) (.ix (.v 1) (.int 1))) (.op2 .mul (.ix (.v 1) (.int 0)) (.ix (.v 0) (.int 1))))) .nil
theorem k_law_below : chkB b_law_below c_law_below (defBody s_law_below) = true := by decide +kernel
theorem f_law_below : FnScope ["one", "other"] ["one", "other"] (defScope s_law_below) := ⟨rfl, rfl, rfl, by decide +kernel, rfl, by decide +kernel, by decide +kernel⟩
/-! _law_number: slots ['spring', 'way'] -/
abbrev s_law_number : Stmt := top 28
def c_law_number : Ctx := ⟨["spring", "way"], (defScope s_law_number).names, none, fnm, glm, [], false, [], []⟩
def b_law_number_6 : Blk := .cons (.ret (.tup (.cons (.op2 .sub (.call n_law_drop (.cons (.v 0) (.cons (.int 2001) .nil))) (.int 1000)) (.cons (.int 1) .nil)))) .nil
def b_law_number_7 : Blk := .cons (.ret (.call n_law_low (.cons (.op2 .sub (.call n_law_drop (.cons (.v 0) (.cons (.int 2000001) .nil))) (.int 1000000)) (.cons (.ix (.lst (.cons (.int 100) (.cons (.int 1000) (.cons (.int 8) (.cons (.int 20) .nil))))) (.call n_law_drop (.cons (.v 0) (.cons (.int 4) .nil)))) .nil)))) .nil
def b_law_number_8 : Blk := .cons (.ret (.call n_law_low (.cons (.op2 .sub (.call n_law_drop (.cons (.v 0) (.cons (.int 41) .nil))) (.int 20)) (.cons (.op2 .add (.int 1) (.call n_law_drop (.cons (.v 0) (.cons (.int 12) .nil)))) .nil)))) .nil
def b_law_number_5 : Blk := .cons (.ret (.call n_law_low (.cons (.op2 .sub (.call n_law_drop (.cons (.v 0) (.cons (.int 2000001) .nil))) (.int 1000000)) (.cons (.op2 .add (.int 1) (.call n_law_drop (.cons (.v 0) (.cons (.int 1000) .nil)))) .nil)))) .nil
def b_law_number_4 : Blk := .cons (.ife (.cmp .lt (.v 1) (.int 5)) b_law_number_8 .nil) b_law_number_5
def b_law_number_3 : Blk := .cons (.ife (.cmp .lt (.v 1) (.int 3)) b_law_number_7 .nil) b_law_number_4
def b_law_number_2 : Blk := .cons (.ife (.cmp .eq (.v 1) (.int 0)) b_law_number_6 .nil) b_law_number_3
def b_law_number : Blk := .cons (.set 1 (.call n_law_drop (.cons (.v 0) (.cons (.int 6) .nil)))) b_law_number_2
theorem k_law_number : chkB b_law_number c_law_number (defBody s_law_number) = true := by decide +kernel
theorem f_law_number : FnScope ["spring", "way"] ["spring"] (defScope s_law_number) := ⟨rfl, rfl, rfl, by decide +kernel, rfl, by decide +kernel, by decide +kernel⟩
/-! _law_above: slots ['spring', 'top', 'bottom'] -/
abbrev s_law_above : Stmt := top 29
def c_law_above : Ctx := ⟨["spring", "top", "bottom"], (defScope s_law_above).names, none, fnm, glm, [], false, [], []⟩
def b_law_above_2 : Blk := .cons (.ret (.ifx (.cmp .ne (.v 1) (.int 0)) (.tup (.cons (.bi .abs (.cons (.v 1) .nil)) (.cons (.v 2) .nil))) (.tup (.cons (.int 1) (.cons (.int 100) .nil))))) .nil
def b_law_above : Blk := .cons (.asg [1, 2] (.call n_law_number (.cons (.v 0) .nil))) b_law_above_2
theorem k_law_above : chkB b_law_above c_law_above (defBody s_law_above) = true := by decide +kernel
theorem f_law_above : FnScope ["spring", "top", "bottom"] ["spring"] (defScope s_law_above) := ⟨rfl, rfl, rfl, by decide +kernel, rfl, by decide +kernel, by decide +kernel⟩
/-! _law_text: slots ['number', 'top', 'bottom', 'sign', 'left', 'turn', 'text', 'rest'] -/
abbrev s_law_text : Stmt := top 30
def c_law_text : Ctx := ⟨["number", "top", "bottom", "sign", "left", "turn", "text", "rest"], (defScope s_law_text).names, none, fnm, glm, [], false, [], []⟩
def b_law_text_9 : Blk := .cons (.set 4 (.ifx (.cmp .eq (.op2 .mod (.bi .int (.cons (.v 4) .nil)) (.int 2)) (.int 0)) (.op2 .fdiv (.v 4) (.int 2)) (.ifx (.cmp .eq (.op2 .mod (.bi .int (.cons (.v 4) .nil)) (.int 5)) (.int 0)) (.op2 .fdiv (.v 4) (.int 5)) (.v 4)))) .nil
def b_law_text_10 : Blk := .cons (.ret (.op2 .add (.op2 .add (.op2 .add (.v 3) (.bi .str (.cons (.v 1) .nil))) (.str "/")) (.bi .str (.cons (.v 2) .nil)))) .nil
def b_law_text_11 : Blk := .cons (.set 6 (.op2 .add (.v 6) (.str "."))) .nil
def b_law_text_12 : Blk := .cons (.par 6 7 (.op2 .add (.v 6) (.bi .str (.cons (.op2 .fdiv (.op2 .mul (.v 7) (.int 10)) (.v 2)) .nil))) (.op2 .mod (.bi .int (.cons (.op2 .mul (.v 7) (.int 10)) .nil)) (.v 2))) .nil
def b_law_text_8 : Blk := .cons (.ret (.v 6)) .nil
def b_law_text_7 : Blk := .cons (.while_ (.cmp .gt (.v 7) (.int 0)) b_law_text_12) b_law_text_8
def b_law_text_6 : Blk := .cons (.ife (.cmp .gt (.v 7) (.int 0)) b_law_text_11 .nil) b_law_text_7
def b_law_text_5 : Blk := .cons (.par 6 7 (.op2 .add (.v 3) (.bi .str (.cons (.op2 .fdiv (.v 1) (.v 2)) .nil))) (.op2 .mod (.bi .int (.cons (.v 1) .nil)) (.v 2))) b_law_text_6
def b_law_text_4 : Blk := .cons (.ife (.cmp .gt (.v 4) (.int 1)) b_law_text_10 .nil) b_law_text_5
def b_law_text_3 : Blk := .cons (.for_ (.v 5) (.rng1 (.int 400)) b_law_text_9) b_law_text_4
def b_law_text_2 : Blk := .cons (.par 3 4 (.ix (.lst (.cons (.str "") (.cons (.str "-") .nil))) (.bi .int (.cons (.cmp .lt (.ix (.v 0) (.int 0)) (.int 0)) .nil))) (.v 2)) b_law_text_3
def b_law_text : Blk := .cons (.par 1 2 (.bi .abs (.cons (.ix (.v 0) (.int 0)) .nil)) (.ix (.v 0) (.int 1))) b_law_text_2
theorem k_law_text : chkB b_law_text c_law_text (defBody s_law_text) = true := by decide +kernel
theorem f_law_text : FnScope ["number", "top", "bottom", "sign", "left", "turn", "text", "rest"] ["number"] (defScope s_law_text) := ⟨rfl, rfl, rfl, by decide +kernel, rfl, by decide +kernel, by decide +kernel⟩
/-! _law_drawn: slots ['spring', 'way', 'bound', 'turn', 'bottom'] -/
abbrev s_law_drawn : Stmt := top 31
def c_law_drawn : Ctx := ⟨["spring", "way", "bound", "turn", "bottom"], (defScope s_law_drawn).names, none, fnm, glm, [], false, [], []⟩
def b_law_drawn_9 : Blk := .cons (.set 2 (.op2 .mul (.v 2) (.op2 .pow (.int 10) (.int 63)))) .nil
def b_law_drawn_8 : Blk := .cons (.ret (.call n_law_low (.cons (.op2 .sub (.call n_law_drop (.cons (.v 0) (.cons (.v 2) .nil))) (.op2 .fdiv (.v 2) (.int 2))) (.cons (.op2 .add (.int 1) (.call n_law_drop (.cons (.v 0) (.cons (.ix (.lst (.cons (.op2 .pow (.int 10) (.int 60)) (.cons (.int 1) .nil))) (.call n_law_drop (.cons (.v 0) (.cons (.int 2) .nil)))) .nil)))) .nil)))) .nil
def b_law_drawn_7 : Blk := .cons (.for_ (.v 3) (.rng1 (.int 2)) b_law_drawn_9) b_law_drawn_8
def b_law_drawn_6 : Blk := .cons (.set 2 (.op2 .pow (.int 10) (.int 64))) b_law_drawn_7
def b_law_drawn_13 : Blk := .cons (.set 4 (.op2 .mul (.v 4) (.ix (.lst (.cons (.int 2) (.cons (.int 5) (.cons (.int 10) .nil)))) (.call n_law_drop (.cons (.v 0) (.cons (.int 3) .nil)))))) .nil
def b_law_drawn_12 : Blk := .cons (.ret (.call n_law_low (.cons (.op2 .sub (.call n_law_drop (.cons (.v 0) (.cons (.op2 .pow (.int 10) (.int 50)) .nil))) (.op2 .pow (.int 10) (.int 49))) (.cons (.v 4) .nil)))) .nil
def b_law_drawn_11 : Blk := .cons (.for_ (.v 3) (.rng1 (.call n_law_drop (.cons (.v 0) (.cons (.int 40) .nil)))) b_law_drawn_13) b_law_drawn_12
def b_law_drawn_10 : Blk := .cons (.set 4 (.int 1)) b_law_drawn_11
def b_law_drawn_14 : Blk := .cons (.ret (.call n_law_low (.cons (.op2 .sub (.call n_law_drop (.cons (.v 0) (.cons (.op2 .pow (.int 10) (.int 40)) .nil))) (.op2 .pow (.int 10) (.int 39))) (.cons (.op2 .add (.int 1) (.call n_law_drop (.cons (.v 0) (.cons (.op2 .pow (.int 10) (.int 20)) .nil)))) .nil)))) .nil
def b_law_drawn_5 : Blk := .cons (.ret (.call n_law_number (.cons (.v 0) .nil))) .nil
def b_law_drawn_4 : Blk := .cons (.ife (.cmp .eq (.v 1) (.int 1)) b_law_drawn_14 .nil) b_law_drawn_5
def b_law_drawn_3 : Blk := .cons (.ife (.cmp .eq (.v 1) (.int 0)) b_law_drawn_10 .nil) b_law_drawn_4
def b_law_drawn_2 : Blk := .cons (.ife (.cmp .eq (.v 1) (.int 5)) b_law_drawn_6 .nil) b_law_drawn_3
def b_law_drawn : Blk := .cons (.set 1 (.call n_law_drop (.cons (.v 0) (.cons (.int 6) .nil)))) b_law_drawn_2
theorem k_law_drawn : chkB b_law_drawn c_law_drawn (defBody s_law_drawn) = true := by decide +kernel
theorem f_law_drawn : FnScope ["spring", "way", "bound", "turn", "bottom"] ["spring"] (defScope s_law_drawn) := ⟨rfl, rfl, rfl, by decide +kernel, rfl, by decide +kernel, by decide +kernel⟩
/-! law: slots ['script', 'spring', 'seen', 'turn', 'number', 'text'] -/
abbrev s_law : Stmt := top 32
def c_law : Ctx := ⟨["script", "spring", "seen", "turn", "number", "text"], (defScope s_law).names, none, fnm, glm, [(n_fraction_text, 0, ["number"], [0]), (n_fraction_told, 0, ["text"], [0])], false, [], []⟩
def b_law_10 : Blk := .cons (.ret (.bl false)) .nil
def b_law_11 : Blk := .cons (.ret (.bl false)) .nil
def b_law_9 : Blk := .cons (.dput (.v 2) (.v 5) (.v 4)) .nil
def b_law_8 : Blk := .cons (.ife (.bor (.bnot (.call n_law_alike (.cons (.lst (.cons (.call n_fraction_told (.cons (.v 5) .nil)) (.cons (.callk n_fraction_told .nil (.cons (.v 5) .nil) [0]) .nil))) (.cons (.lst (.cons (.v 4) (.cons (.v 4) .nil))) .nil)))) (.cmp .ne (.dget (.v 2) (.v 5) (.v 4)) (.v 4))) b_law_11 .nil) b_law_9
def b_law_7 : Blk := .cons (.ife (.bnot (.call n_law_alike (.cons (.lst (.cons (.call n_fraction_text (.cons (.v 4) .nil)) (.cons (.callk n_fraction_text .nil (.cons (.v 4) .nil) [0]) .nil))) (.cons (.lst (.cons (.v 5) (.cons (.v 5) .nil))) .nil)))) b_law_10 .nil) b_law_8
def b_law_6 : Blk := .cons (.set 5 (.call n_law_text (.cons (.v 4) .nil))) b_law_7
def b_law_5 : Blk := .cons (.set 4 (.call n_law_drawn (.cons (.v 1) .nil))) b_law_6
def b_law_4 : Blk := .cons (.ret (.bl true)) .nil
def b_law_3 : Blk := .cons (.for_ (.v 3) (.rng1 (.int 12)) b_law_5) b_law_4
def b_law_2 : Blk := .cons (.set 2 .dctM) b_law_3
def b_law : Blk := .cons (.set 1 (.call n_law_spring (.cons (.v 0) .nil))) b_law_2
theorem k_law : chkB b_law c_law (defBody s_law) = true := by decide +kernel
theorem f_law : FnScope ["script", "spring", "seen", "turn", "number", "text"] ["script"] (defScope s_law) := ⟨rfl, rfl, rfl, by decide +kernel, rfl, by decide +kernel, by decide +kernel⟩
/-! base: texts, plain data, pure defs -/
theorem ofString_inj {a b : String} : (Str.ofString a = Str.ofString b) = (a = b) := by
  apply propext
  refine ⟨fun h => ?_, fun h => by rw [h]⟩
  rw [Str.ofString_eq_toList, Str.ofString_eq_toList] at h
  have h3 : a.toList.map Char.toNat = b.toList.map Char.toNat := by
    have := congrArg (fun x : Str => x.cps.toList) h
    simpa using this
  exact String.toList_inj.mp ((List.map_inj_right fun x y e => Char.toNat_inj.mp e).mp h3)
theorem ok_lit {s : String} : PyData.strOk (Str.ofString s) = true := by
  rw [Str.ofString_eq_toList]
  unfold PyData.strOk
  rw [Array.all_eq_true']
  intro c hc
  have hc : c ∈ s.toList.map Char.toNat := by simpa using hc
  obtain ⟨x, _, rfl⟩ := List.mem_map.mp hc
  have v := x.valid
  have l : x.val.toNat < 0x110000 := by
    rcases v with v | v <;> omega
  exact decide_eq_true l
theorem eq_strG {x y : Str} {h : Hm} : eqD (.str x) (.str y) h = .guard (PyData.strOk x && PyData.strOk y) (.ok (decide (x = y)) h) := by
  have e : ∀ x : Str, SeqAt.shaped (.str x) = PyData.strOk x := fun x => by simp [SeqAt.shaped, PyData.canLay0, PyData.depth]
  have e2 : PyData.eqv (.str x) (.str y) = decide (x = y) := by
    show (x == y) = _
    rw [Bool.eq_iff_iff]
    simp
  unfold eqD
  show (Res.guard (SeqAt.shaped (.str x) && SeqAt.shaped (.str y)) (.ok (PyData.eqv (.str x) (.str y)) h)) = _
  rw [e, e, e2]
theorem eqFD_str {a b : Str} : eqFD (.str a) (.str b) = decide (a = b) := by
  show (a == b) = _
  rw [Bool.eq_iff_iff]
  simp
theorem flatD_str {a : Str} : flatD (.str a) = true := rfl
theorem flatD_int {a : Int} : flatD (.int a) = true := rfl
theorem guard_decide {α : Type} {p : Prop} [Decidable p] {r : Res α} (h : p) : Res.guard (decide p) r = r := by rw [decide_eq_true h]; rfl
/-- a tuple that is not empty -/
theorem ne_nilT {k : Nat} {x : D} {xs : List D} {h : Hm} (hk : k ≤ 64) (p : plainD k (.tup (x :: xs)) = true) : eqD (.tup (x :: xs)) (.tup []) h = .ok false h := by
  obtain ⟨q, a1, a2, a3, _⟩ := plain_py k _ p
  obtain ⟨ps, rfl⟩ : ∃ ps, q = .tuple ps := by
    have a1 : (toPys (x :: xs)).map PyData.tuple = some q := a1
    cases e : toPys (x :: xs) with
    | none => rw [e] at a1; cases a1
    | some ps => rw [e] at a1; cases a1; exact ⟨_, rfl⟩
  have hp : ps ≠ [] := by
    rintro rfl
    have a1 : (toPys (x :: xs)).map PyData.tuple = some (.tuple []) := a1
    cases e : toPys (x :: xs) with
    | none => rw [e] at a1; cases a1
    | some ps =>
      rw [e] at a1
      cases a1
      unfold toPys at e
      split at e <;> cases e
  unfold eqD
  rw [toPyH_of a1, show toPyH h (.tup []) = some (.tuple []) from rfl]
  have s1 : SeqAt.shaped (.tuple ps) = true := by
    unfold SeqAt.shaped
    rw [a2, decide_eq_true (show (PyData.tuple ps).depth ≤ 64 by omega)]
    rfl
  dsimp only
  rw [s1]
  cases ps with
  | nil => exact absurd rfl hp
  | cons p ps => rfl
/-- the common end -/
theorem fz_back {h t : Hm} {d r : D} {h2 : Hm} {T : D → Hm → Prop} (e : h2 = h ++ t) (b : belowD h.length d = true) (k : T d h) : ∃ r h', Fz h d h2 r h' ∧ T r h' := by
  subst e
  exact ⟨d, h, Fz.back b, k⟩
theorem fz_same {h : Hm} {d : D} {T : D → Hm → Prop} (k : T d h) : ∃ r h', Fz h d h r h' ∧ T r h' := ⟨d, h, .refl, k⟩

/-- a pure def: its answer is the one that P tells -/
def TR (P : List D → D → Prop) : Tell := fun ds h r h' => (∀ v, P ds v → r = v) ∧ h' = h
abbrev PoR (h : Hm) (v : D) : Po := { nx := fun _ h2 => Fz h .non h2 v h, rt := fun d h2 => Fz h d h2 v h }
theorem den_TR {Γ : Gam} {N : List Str} {np : Nat} {b : Blk} {P : List D → D → Prop} {ds : List D} {h : Hm} {v : D} (hl : ds.length = np) (u : ∀ v', P ds v' → v' = v) (p : P ds v) (w : wpB Γ b (startD N ds) h (PoR h v)) : denT Γ N np b (TR P) ds h = .ok v h := by
  obtain ⟨r, h', e, t1, t2⟩ := denT_ok (T := TR P) hl (wpB_mono Γ b _ _ _ (PoT (TR P) ds h) ⟨fun σ h2 z => ⟨v, h, z, fun v' p' => (u v' p').symm, rfl⟩, fun d h2 z => ⟨v, h, z, fun v' p' => (u v' p').symm, rfl⟩, fun _ _ z => False.elim z, fun _ _ z => False.elim z, fun _ _ _ z => False.elim z⟩ w)
  rw [e, t1 v p, t2]
theorem in1 {a b : D} (e : [a] = [b]) : a = b := by injection e
theorem in2 {a b c d : D} (e : [a, b] = [c, d]) : a = c ∧ b = d := by
  injection e with e1 e2
  exact ⟨e1, in1 e2⟩
theorem in3 {a b c d e f : D} (z : [a, b, c] = [d, e, f]) : a = d ∧ b = e ∧ c = f := by
  injection z with e1 e2
  exact ⟨e1, in2 e2⟩
theorem in4 {a b c d a' b' c' d' : D} (z : [a, b, c, d] = [a', b', c', d']) : a = a' ∧ b = b' ∧ c = c' ∧ d = d' := by
  injection z with e1 e2
  exact ⟨e1, in3 e2⟩
/-- a value that isinstance may be asked of -/
def opn : D → Bool
  | .ref _ => false
  | .dict _ _ => false
  | .fn _ _ => false
  | .wtup _ => false
  | _ => true
theorem opn_open {d : D} {h : Hm} (o : opn d = true) : openD h d = true := by cases d <;> first | rfl | exact Bool.noConfusion o
/-! comprehensions -/
theorem compR_eq {Γ : Gam} {own : List (Str × Nat)} {tg : Tg} {cond : Exs} {elt : Ex} {σ : Sg} {src : List D} {h1 : Hm} (g : D → Option D)
    (hg : ∀ x ∈ src, ∀ t, ∃ σ', asgD tg x (wipeD σ (own.map (·.2))) = some σ' ∧ (match g x with
      | some y => evTs Γ cond σ' (h1 ++ [t]) = .ok true (h1 ++ [t]) ∧ evE Γ elt σ' (h1 ++ [t]) = .ok y (h1 ++ [t])
      | none => evTs Γ cond σ' (h1 ++ [t]) = .ok false (h1 ++ [t])))
    (hl : src.length ≤ LIM) (hb : ∀ x ∈ src, ∀ y, g x = some y → belowD h1.length y = true) : compR Γ false own tg cond elt σ src h1 = .ok (.lst (src.filterMap g)) h1 := by
  have b : belowDs h1.length (src.filterMap g) = true := belowDs_of fun y hy => by
    obtain ⟨x, hx, e⟩ := List.mem_filterMap.mp hy
    exact hb x hx y e
  unfold compR
  rw [comp_pure (g := g) (fun x hx t => ?_) (by simpa using hl)]
  · rw [Res.bind_ok, show listOf? (h1 ++ [MO.lst ([] ++ src.filterMap g)]) h1.length = some ([] ++ src.filterMap g) from listOf_new]
    dsimp only
    rw [List.nil_append, endC_pure b]
  · obtain ⟨σ', a1, a2⟩ := hg x hx t
    cases k : g x with
    | none =>
      rw [k] at a2
      exact stepC_none a1 a2
    | some y =>
      rw [k] at a2
      exact stepC_some a1 a2.1 a2.2
theorem compR_map {Γ : Gam} {own : List (Str × Nat)} {tg : Tg} {elt : Ex} {σ : Sg} {src : List D} {h1 : Hm} (g : D → D)
    (hg : ∀ x ∈ src, ∀ t, ∃ σ', asgD tg x (wipeD σ (own.map (·.2))) = some σ' ∧ evE Γ elt σ' (h1 ++ [t]) = .ok (g x) (h1 ++ [t]))
    (hl : src.length ≤ LIM) (hb : ∀ x ∈ src, belowD h1.length (g x) = true) : compR Γ false own tg .nil elt σ src h1 = .ok (.lst (src.map g)) h1 := by
  rw [compR_eq (fun x => some (g x)) (fun x hx t => ?_) hl (fun x hx y e => by cases e; exact hb x hx)]
  · rw [show (fun x => some (g x)) = some ∘ g from rfl, List.filterMap_eq_map]
  · obtain ⟨σ', a, b⟩ := hg x hx t
    exact ⟨σ', a, rfl, b⟩
theorem comp_enc {α : Type} {f : D → Hm → Res (Option D)} {enc : α → D} {val : α → Option D} {h : Hm} : ∀ {xs : List α} {acc : List D}, (∀ a ∈ xs, ∀ t, f (enc a) (h ++ [t]) = .ok (val a) (h ++ [t])) → acc.length + xs.length ≤ LIM →
    compLoop f h.length (xs.map enc) (h ++ [MO.lst acc]) = .ok () (h ++ [MO.lst (acc ++ xs.filterMap val)])
  | [], acc, _, _ => by simp [compLoop]
  | x :: xs, acc, hf, hl => by
    have e1 := hf x List.mem_cons_self (.lst acc)
    have hl' : acc.length + (xs.length + 1) ≤ LIM := hl
    rw [List.map_cons]
    unfold compLoop
    rw [e1]
    cases k : val x with
    | none =>
      rw [List.filterMap_cons_none k]
      exact comp_enc (fun y hy => hf y (List.mem_cons_of_mem _ hy)) (by omega)
    | some y =>
      rw [Res.bind_ok]
      dsimp only
      rw [show listOf? (h ++ [MO.lst acc]) h.length = some acc from listOf_new]
      dsimp only
      have e4 : (h ++ [MO.lst acc]).set h.length (.lst (acc ++ [y])) = h ++ [MO.lst (acc ++ [y])] := by
        rw [List.set_append_right _ _ (Nat.le_refl _)]
        simp
      rw [decide_eq_true (show acc.length < LIM by omega), Res.guard_true, e4, comp_enc (fun y hy => hf y (List.mem_cons_of_mem _ hy)) (by rw [List.length_append]; simp; omega), List.filterMap_cons_some k, List.append_assoc]
      rfl
/-- [elt for tg in xs if cond], the items told by things of a type -/
theorem compR_encF {α : Type} {Γ : Gam} {own : List (Str × Nat)} {tg : Tg} {cond : Exs} {elt : Ex} {σ : Sg} {h1 : Hm} (xs : List α) (enc : α → D) (val : α → Option D)
    (hg : ∀ x ∈ xs, ∀ t, ∃ σ', asgD tg (enc x) (wipeD σ (own.map (·.2))) = some σ' ∧ (match val x with
      | some y => evTs Γ cond σ' (h1 ++ [t]) = .ok true (h1 ++ [t]) ∧ evE Γ elt σ' (h1 ++ [t]) = .ok y (h1 ++ [t])
      | none => evTs Γ cond σ' (h1 ++ [t]) = .ok false (h1 ++ [t])))
    (hl : xs.length ≤ 1000000) (hb : ∀ x ∈ xs, ∀ y, val x = some y → belowD h1.length y = true) : compR Γ false own tg cond elt σ (xs.map enc) h1 = .ok (.lst (xs.filterMap val)) h1 := by
  have b : belowDs h1.length (xs.filterMap val) = true := belowDs_of fun y hy => by
    obtain ⟨x, hx, e⟩ := List.mem_filterMap.mp hy
    exact hb x hx y e
  unfold compR
  rw [comp_enc (val := val) (fun x hx t => ?_) (Nat.le_trans (by simpa using hl) (by decide : 1000000 ≤ LIM))]
  · rw [Res.bind_ok, show listOf? (h1 ++ [MO.lst ([] ++ xs.filterMap val)]) h1.length = some ([] ++ xs.filterMap val) from listOf_new]
    dsimp only
    rw [List.nil_append, endC_pure b]
  · obtain ⟨σ', a1, a2⟩ := hg x hx t
    cases k : val x with
    | none =>
      rw [k] at a2
      exact stepC_none a1 a2
    | some y =>
      rw [k] at a2
      exact stepC_some a1 a2.1 a2.2
theorem compR_enc {α : Type} {Γ : Gam} {own : List (Str × Nat)} {tg : Tg} {elt : Ex} {σ : Sg} {h1 : Hm} (xs : List α) (enc : α → D) (val : α → D)
    (hg : ∀ x ∈ xs, ∀ t, ∃ σ', asgD tg (enc x) (wipeD σ (own.map (·.2))) = some σ' ∧ evE Γ elt σ' (h1 ++ [t]) = .ok (val x) (h1 ++ [t]))
    (hl : xs.length ≤ 1000000) (hb : ∀ x ∈ xs, belowD h1.length (val x) = true) : compR Γ false own tg .nil elt σ (xs.map enc) h1 = .ok (.lst (xs.map val)) h1 := by
  rw [compR_encF xs enc (fun x => some (val x)) (fun x hx t => ?_) hl (fun x hx y e => by cases e; exact hb x hx)]
  · rw [show (fun x => some (val x)) = some ∘ val from rfl, List.filterMap_eq_map]
  · obtain ⟨σ', a, b⟩ := hg x hx t
    exact ⟨σ', a, rfl, b⟩
theorem bools_bl {α : Type} (p : α → Bool) : ∀ xs : List α, boolsOf (xs.map fun x => .bl (p x)) = some (xs.map p)
  | [] => rfl
  | x :: xs => by
    show (boolsOf (xs.map fun x => .bl (p x))).map (p x :: ·) = _
    rw [bools_bl p xs] <;> rfl
theorem all_bl {α : Type} (p : α → Bool) (xs : List α) (h : Hm) : biD .all [.lst (xs.map fun x => .bl (p x))] h = .ok (.bl (xs.all p)) h := by
  rw [bi_allL, bools_bl]
  dsimp only
  congr 2
  induction xs with
  | nil => rfl
  | cons x xs ih => rw [List.map_cons, List.all_cons, List.all_cons, ih] <;> rfl
theorem len_guard {α : Type} {n : Nat} {r : Res α} (h : n ≤ 1000000) : Res.guard (decide (n ≤ LIM)) r = r := guard_decide (Nat.le_trans h (by decide))
theorem bk_str {α : Type} {f : α → Str} {n : Nat} : ∀ (xs : List α) , belowDs n (xs.map fun x => .str (f x)) = true
  | [] => rfl
  | x :: xs => by
    show (true && belowDs n (xs.map fun x => .str (f x))) = true
    rw [bk_str xs] <;> rfl

theorem opn_tup {xs : List D} : opn (.tup xs) = true := by simp [opn]
theorem opn_lst {xs : List D} : opn (.lst xs) = true := by simp [opn]
theorem opn_int {i : Int} : opn (.int i) = true := by simp [opn]
theorem opn_str {x : Str} : opn (.str x) = true := by simp [opn]
theorem opn_bl {b : Bool} : opn (.bl b) = true := by simp [opn]
theorem opn_non : opn .non = true := by simp [opn]
theorem lenset_tup {xs : List D} {h : Hm} {ks : List Key} (e : keysOf xs = some ks) (l : ks.length ≤ 1000) : lensetD (.tup xs) h = .ok (.int (distS ks)) h := by
  show (match keysOf xs with
    | some ks => Res.guard (decide (ks.length ≤ 1000)) (.ok (D.int (distS ks)) h)
    | none => .stuck) = _
  rw [e]
  exact guard_decide l
def btw (a : Int) (v : D) (b : Int) : Bool := match v with
  | .int i => decide (a ≤ i) && decide (i ≤ b)
  | _ => false
def tupN (n : Int) (v : D) : Bool := match v with
  | .tup xs => decide ((xs.length : Int) = n)
  | _ => false
theorem tupN_tup {n : Int} {xs : List D} : tupN n (.tup xs) = decide ((xs.length : Int) = n) := rfl
theorem btw_int {a i b : Int} : btw a (.int i) b = (decide (a ≤ i) && decide (i ≤ b)) := rfl
local macro_rules | `(tactic| fail "mini fxx") => `(tactic| simp only [eq_strG, ok_lit, ofString_inj, eqFD_str, flatD_str, flatD_int, in_tup, in_lst, Bool.and_self, List.all_cons, List.all_nil, List.any_cons, List.any_nil, Bool.or_false, Bool.false_or, Bool.true_or, Bool.or_true, Bool.and_true, Bool.true_and, Bool.false_and, Bool.and_false, Bool.or_self, String.reduceEq, decide_true, decide_false, Bool.not_true, Bool.not_false, if_true, if_false, Bool.false_eq_true, reduceCtorEq, tupN_tup, btw_int, List.length, Nat.reduceAdd, Int.cast_ofNat_Int, Int.reduceEq, Int.reduceLE, Int.reduceLT, Int.reduceNeg, Int.reduceAdd, Int.reduceSub, Int.reduceMul])

theorem map_inj {α : Type} {f : α → D} (hf : ∀ a b, f a = f b → a = b) : ∀ {xs ys : List α}, xs.map f = ys.map f → xs = ys
  | [], [], _ => rfl
  | [], _ :: _, e => by cases e
  | _ :: _, [], e => by cases e
  | x :: xs, y :: ys, e => by
    rw [List.map_cons, List.map_cons] at e
    injection e with e1 e2
    rw [hf _ _ e1, map_inj hf e2]
/-! the brush -/
structure Br where
  deep : List Int
  p : Int
  c : Int
def Br.ok (b : Br) : Prop := 0 ≤ b.p ∧ b.p < 2305843009213693952
def hb (b : Br) (t : Hm) : Hm := .lst (b.deep.map .int) :: .lst [.ref 0, .int b.p, .int b.c] :: t
theorem ints_inj {xs ys : List Int} (e : xs.map D.int = ys.map D.int) : xs = ys := map_inj (fun _ _ e => by injection e) e
theorem hb_inj {b b' : Br} {t t' : Hm} (e : hb b t = hb b' t') : b = b' ∧ t = t' := by
  obtain ⟨x, y, z⟩ := b
  obtain ⟨x', y', z'⟩ := b'
  unfold hb at e
  injection e with e1 e2
  injection e2 with e2 e3
  injection e1 with e1
  injection e2 with e2
  obtain ⟨_, a, c⟩ := in3 e2
  injection a with a
  injection c with c
  have e1 := ints_inj e1
  simp only at e1 a c
  subst e1 a c
  exact ⟨rfl, e3⟩
theorem hb_len {b : Br} {t : Hm} : (hb b t).length = t.length + 2 := rfl
theorem hb_app {b : Br} {t u : Hm} : hb b t ++ u = hb b (t ++ u) := rfl
theorem hb_at {b : Br} {t : Hm} {k : Nat} : (hb b t)[k + 2]? = t[k]? := rfl
theorem hb_set {b : Br} {t : Hm} {k : Nat} {o : MO} : (hb b t).set (k + 2) o = hb b (t.set k o) := rfl
theorem l0 {b : Br} {t : Hm} : listOf? (hb b t) 0 = some (b.deep.map .int) := rfl
theorem l1 {b : Br} {t : Hm} : listOf? (hb b t) 1 = some [.ref 0, .int b.p, .int b.c] := rfl
theorem s0 {b : Br} {t : Hm} {zs : List Int} : (hb b t).set 0 (.lst (zs.map .int)) = hb ⟨zs, b.p, b.c⟩ t := rfl
theorem s0c {b : Br} {t : Hm} {z : Int} {zs : List Int} : (hb b t).set 0 (.lst (.int z :: zs.map .int)) = hb ⟨z :: zs, b.p, b.c⟩ t := rfl
theorem s1 {b : Br} {t : Hm} {p c : Int} : (hb b t).set 1 (.lst [.ref 0, .int p, .int c]) = hb ⟨b.deep, p, c⟩ t := rfl
theorem eq_deep {b : Br} {t : Hm} : eqD (.ref 0) (.lst []) (hb b t) = .ok b.deep.isEmpty (hb b t) := eq_nil l0
theorem open_r {b : Br} {t : Hm} {k : Nat} (h : k < 2) : openD (hb b t) (.ref k) = true := by
  match k, h with
  | 0, _ => rfl
  | 1, _ => rfl
theorem fz_hb {b b' : Br} {t u : Hm} {d : D} (k : belowD (t.length + 2) d = true) : Fz (hb b t) d (hb b' (t ++ u)) d (hb b' t) := by
  have e : (hb b' (t ++ u)).take (t.length + 2) = hb b' t := by
    rw [← hb_app, List.take_append_of_le_length (Nat.le_of_eq hb_len.symm), List.take_of_length_le (Nat.le_of_eq hb_len)]
  refine .cut (m := t.length + 2) (Nat.le_of_eq hb_len) (by rw [hb_len, List.length_append]; omega) k (fun i o hi ho => ?_) (by rw [e]; exact .refl)
  match i with
  | 0 =>
    cases ho
    right
    show belowDs _ _ = true
    refine belowDs_of fun y hy => ?_
    obtain ⟨z, _, rfl⟩ := List.mem_map.mp hy
    rfl
  | 1 =>
    cases ho
    right
    show (decide (0 < t.length + 2) && true) = true
    rw [decide_eq_true (by omega)]
    rfl
  | i + 2 =>
    left
    rw [hb_at] at ho ⊢
    rw [List.getElem?_append_left (by omega)] at ho
    exact ho
theorem powOk61 : powOk 2 61 = true := by decide
theorem powOk59 : powOk 2 59 = true := by decide
theorem powOk18 : powOk 10 18 = true := by decide
theorem p61 : (2 : Int) ^ (Int.toNat 61) = 2305843009213693952 := by decide
theorem p59 : (2 : Int) ^ (Int.toNat 59) = 576460752303423488 := by decide
theorem p18 : (10 : Int) ^ (Int.toNat 18) = 1000000000000000000 := by decide
theorem dv1 : divOk 16384 = true := by decide
theorem dv2 : divOk 131072 = true := by decide
theorem log_small {n k : Nat} (h : n < 2 ^ k) (k0 : 0 < k) : n.log2 < k := by
  rcases Nat.eq_zero_or_pos n with rfl | h0
  · rw [show Nat.log2 0 = 0 by decide]; exact k0
  · exact (Nat.log2_lt (by omega)).mpr h
theorem dvm {m : Int} (h0 : 0 < m) (h1 : m < 2 ^ 64) : divOk m = true := divOk_of (by omega) (Nat.lt_of_lt_of_le (log_small (k := 64) (by omega) (by decide)) (by decide))
local macro_rules | `(tactic| fail "mini fxx") => `(tactic| simp only [powOk61, powOk59, powOk18, p61, p59, p18, dv1, dv2, l0, l1, s0, s0c, s1, eq_deep, Int.reduceSub, Int.reduceAdd, Int.reduceLT, decide_true])
theorem k_setix {Γ : Gam} {o i : Ex} {b : Blk} {σ : Sg} {h : Hm} {P : Po} {d : D} {n : Nat} {k : Int} {xs : List D} {j : Nat} (ho : evE Γ o σ h = .ok (.ref n) h) (hi : evE Γ i σ h = .ok (.int k) h) (l : listOf? h n = some xs) (x : ixN xs.length k = some j) : (Res.ok d h).wp (KIxV Γ o i b σ P) = wpB Γ b σ (h.set n (.lst (xs.set j d))) P := by
  show (evE Γ o σ h).wp _ = _
  rw [ho]
  show (evE Γ i σ h).wp _ = _
  rw [hi]
  show (match listOf? h n with
      | some xs => match ixN xs.length k with
        | some j => wpB Γ b σ (h.set n (.lst (xs.set j d))) P
        | none => False
      | none => False) = _
  rw [l]
  dsimp only
  rw [x]
theorem i32 {x y z : D} : ixN [x, y, z].length 2 = some 2 := by
  show ixN 3 2 = some 2
  decide
theorem i31 {x y z : D} : ixN [x, y, z].length 1 = some 1 := by
  show ixN 3 1 = some 1
  decide
theorem ix0 {α : Type} {x : α} {xs : List α} : ixN (x :: xs).length 0 = some 0 := by
  unfold ixN
  simp
theorem po_rt {T : Tell} {ds : List D} {h : Hm} {d : D} {h2 : Hm} (k : T ds h d h2) : (PoT T ds h).rt d h2 := ⟨d, h2, .refl, k⟩
def T_drop : Tell := fun ds h r h' => ∀ (b : Br) (many : Int) (t : Hm), ds = [.ref 1, .int many] → h = hb b t → b.ok → 0 < many → divOk many = true → ∃ (b' : Br) (n : Int), r = .int n ∧ h' = hb b' t ∧ b'.ok ∧ 0 ≤ n ∧ n < many
noncomputable def G_law_drop : Gam := gamL [] []
theorem N_law_drop : c_law_drop.N = (["spring", "many", "great", "found"] : List Str) := rfl
noncomputable def d_law_drop : List D → Hm → Res D := denT G_law_drop c_law_drop.N 2 b_law_drop T_drop
theorem sp_law_drop {ds : List D} {h : Hm} (hl : ds.length = 2) (w : wpB G_law_drop b_law_drop (startD c_law_drop.N ds) h (PoT T_drop ds h)) : ∃ r h2, d_law_drop ds h = .ok r h2 ∧ T_drop ds h r h2 := denT_ok hl w
theorem ub_law_drop_7 {Γ : Gam} {σ : Sg} {h : Hm} {P : Po} : wpB Γ b_law_drop_7 σ h P = wpB Γ (.cons (.ex (.meth .popAt (.v 2) (.cons (.int 0) .nil))) .nil) σ h P := rfl
theorem ub_law_drop_10 {Γ : Gam} {σ : Sg} {h : Hm} {P : Po} : wpB Γ b_law_drop_10 σ h P = wpB Γ (.cons (.ret (.v 3)) .nil) σ h P := rfl
theorem ub_law_drop_9 {Γ : Gam} {σ : Sg} {h : Hm} {P : Po} : wpB Γ b_law_drop_9 σ h P = wpB Γ (.cons (.setix (.v 2) (.int 0) (.op2 .fdiv (.ix (.v 2) (.int 0)) (.v 1))) b_law_drop_10) σ h P := rfl
theorem ub_law_drop_8 {Γ : Gam} {σ : Sg} {h : Hm} {P : Po} : wpB Γ b_law_drop_8 σ h P = wpB Γ (.cons (.set 3 (.op2 .mod (.bi .int (.cons (.ix (.v 2) (.int 0)) .nil)) (.v 1))) b_law_drop_9) σ h P := rfl
theorem ub_law_drop_6 {Γ : Gam} {σ : Sg} {h : Hm} {P : Po} : wpB Γ b_law_drop_6 σ h P = wpB Γ (.cons (.ret (.op2 .mod (.op2 .fdiv (.op2 .mod (.bi .int (.cons (.op2 .mul (.ix (.v 0) (.int 1)) (.ix (.v 0) (.int 1))) .nil)) (.int 2305843009213693921)) (.int 1048576)) (.v 1))) .nil) σ h P := rfl
theorem ub_law_drop_5 {Γ : Gam} {σ : Sg} {h : Hm} {P : Po} : wpB Γ b_law_drop_5 σ h P = wpB Γ (.cons (.setix (.v 0) (.int 1) (.op2 .mod (.bi .int (.cons (.op2 .add (.op2 .mul (.ix (.v 0) (.int 1)) (.int 6364136223846793005)) (.op2 .mul (.ix (.v 0) (.int 2)) (.int 1442695040888963407))) .nil)) (.int 2305843009213693951))) b_law_drop_6) σ h P := rfl
theorem ub_law_drop_4 {Γ : Gam} {σ : Sg} {h : Hm} {P : Po} : wpB Γ b_law_drop_4 σ h P = wpB Γ (.cons (.setix (.v 0) (.int 2) (.op2 .add (.ix (.v 0) (.int 2)) (.int 1))) b_law_drop_5) σ h P := rfl
theorem ub_law_drop_3 {Γ : Gam} {σ : Sg} {h : Hm} {P : Po} : wpB Γ b_law_drop_3 σ h P = wpB Γ (.cons (.ife (.cmp .ne (.v 2) (.lst .nil)) b_law_drop_8 .nil) b_law_drop_4) σ h P := rfl
theorem ub_law_drop_2 {Γ : Gam} {σ : Sg} {h : Hm} {P : Po} : wpB Γ b_law_drop_2 σ h P = wpB Γ (.cons (.while_ (.band (.cmp .ne (.v 2) (.lst .nil)) (.cmp .eq (.ix (.v 2) (.int 0)) (.int 0))) b_law_drop_7) b_law_drop_3) σ h P := rfl
theorem ub_law_drop {Γ : Gam} {σ : Sg} {h : Hm} {P : Po} : wpB Γ b_law_drop σ h P = wpB Γ (.cons (.set 2 (.ix (.v 0) (.int 0))) b_law_drop_2) σ h P := rfl
local macro_rules | `(tactic| fail "mini u_law_drop") => `(tactic| simp only [N_law_drop, opn_tup, opn_lst, opn_int, opn_str, opn_bl, opn_non, eq_self, ub_law_drop_7, ub_law_drop_10, ub_law_drop_9, ub_law_drop_8, ub_law_drop_6, ub_law_drop_5, ub_law_drop_4, ub_law_drop_3, ub_law_drop_2, ub_law_drop])
local macro_rules | `(tactic| fail "mini x_law_drop") => `(tactic| repeat (first | fail "mini fw" | fail "mini u_law_drop" | fail "mini fxx"))
theorem T_drop_mk {b b' : Br} {many n : Int} {t : Hm} (o : b'.ok) (n0 : 0 ≤ n) (n1 : n < many) : T_drop [.ref 1, .int many] (hb b t) (.int n) (hb b' t) := by
  intro b2 many2 t2 e1 e2 _ _ _
  obtain ⟨_, e1⟩ := in2 e1
  injection e1 with e1
  obtain ⟨rfl, rfl⟩ := hb_inj e2
  exact ⟨b', n, rfl, rfl, o, n0, by rw [← e1]; exact n1⟩
theorem s_drop {b : Br} {many : Int} {t : Hm} (o : b.ok) (m0 : 0 < many) (m1 : divOk many = true) : ∃ d h, d_law_drop [.ref 1, .int many] (hb b t) = .ok d h ∧ ∃ (b' : Br) (n : Int), d = .int n ∧ h = hb b' t ∧ b'.ok ∧ 0 ≤ n ∧ n < many := by
  have w : wpB G_law_drop b_law_drop (startD c_law_drop.N [.ref 1, .int many]) (hb b t) (PoT T_drop [.ref 1, .int many] (hb b t)) := by
    fail "mini x_law_drop"
    refine L_while (m := b.deep.length) (fun m σ h2 => ∃ zs, σ = [some (.ref 1), some (.int many), some (.ref 0), none] ∧ h2 = hb ⟨zs, b.p, b.c⟩ t ∧ zs.length = m) ⟨b.deep, rfl, rfl, rfl⟩ ?_
    rintro m σ h2 ⟨zs, rfl, rfl, rfl⟩
    cases zs with
    | nil =>
      fail "mini x_law_drop"
      simp only [List.isEmpty_nil, Bool.not_true]
      fail "mini x_law_drop"
      refine And.intro (fun z => by cases z) (fun _ => ?_)
      fail "mini x_law_drop"
      simp only [List.isEmpty_nil, Bool.not_true]
      fail "mini x_law_drop"
      rw [k_setix (n := 1) (k := 2) (j := 2) rfl rfl l1 i32]
      fail "mini x_law_drop"
      rw [mulOk_r (by decide) (by decide), mulOk_r (by decide) (by decide)]
      fail "mini x_law_drop"
      rw [k_setix (n := 1) (k := 1) (j := 1) rfl rfl l1 i31]
      fail "mini x_law_drop"
      have q0 := Int.emod_nonneg (b.p * 6364136223846793005 + (b.c + 1) * 1442695040888963407) (show (2305843009213693951 : Int) ≠ 0 by decide)
      have q1 := Int.emod_lt_of_pos (b.p * 6364136223846793005 + (b.c + 1) * 1442695040888963407) (show (0 : Int) < 2305843009213693951 by decide)
      rw [mulOk_r (by omega) (by omega)]
      fail "mini x_law_drop"
      rw [decide_eq_true m0]
      fail "mini x_law_drop"
      exact po_rt (T_drop_mk (b := b) (t := t) (b' := ⟨[], (b.p * 6364136223846793005 + (b.c + 1) * 1442695040888963407) % 2305843009213693951, b.c + 1⟩) ⟨q0, by show _ % _ < _; omega⟩ (Int.emod_nonneg _ (by omega)) (Int.emod_lt_of_pos _ m0))
    | cons z zs =>
      fail "mini x_law_drop"
      simp only [List.isEmpty_cons, Bool.not_false]
      fail "mini x_law_drop"
      by_cases hz : z = 0
      · rw [decide_eq_true hz]
        refine And.intro (fun _ => ?_) (fun z => by cases z)
        fail "mini x_law_drop"
        rw [rcv_pop l0]
        fail "mini x_law_drop"
        rw [pop0 l0]
        fail "mini x_law_drop"
        exact ⟨zs.length, by simp, zs, trivial, rfl, rfl⟩
      · rw [decide_eq_false hz]
        refine And.intro (fun z => by cases z) (fun _ => ?_)
        fail "mini x_law_drop"
        simp only [List.isEmpty_cons, Bool.not_false]
        fail "mini x_law_drop"
        rw [decide_eq_true m0]
        fail "mini x_law_drop"
        rw [m1]
        fail "mini x_law_drop"
        rw [k_setix (n := 0) (k := 0) (j := 0) rfl rfl l0 (by rw [List.length_map]; exact ix0)]
        fail "mini x_law_drop"
        exact po_rt (T_drop_mk (b := b) (t := t) (b' := ⟨z.fdiv many :: zs, b.p, b.c⟩) o (Int.emod_nonneg _ (by omega)) (Int.emod_lt_of_pos _ m0))
  obtain ⟨r, h2, e, T⟩ := sp_law_drop rfl w
  exact ⟨r, h2, e, T b many t rfl rfl o m0 m1⟩

theorem compR_M {α : Type} {Γ : Gam} {own : List (Str × Nat)} {tg : Tg} {cond : Exs} {elt : Ex} {σ : Sg} {h1 : Hm} (xs : List α) (enc : α → D) (val : α → Option D)
    (hg : ∀ x ∈ xs, ∀ t, ∃ σ', asgD tg (enc x) (wipeD σ (own.map (·.2))) = some σ' ∧ (match val x with
      | some y => evTs Γ cond σ' (h1 ++ [t]) = .ok true (h1 ++ [t]) ∧ evE Γ elt σ' (h1 ++ [t]) = .ok y (h1 ++ [t])
      | none => evTs Γ cond σ' (h1 ++ [t]) = .ok false (h1 ++ [t])))
    (hl : xs.length ≤ 1000000) : compR Γ true own tg cond elt σ (xs.map enc) h1 = .ok (.ref h1.length) (h1 ++ [.lst (xs.filterMap val)]) := by
  unfold compR
  rw [comp_enc (val := val) (fun x hx t => ?_) (Nat.le_trans (by simpa using hl) (by decide : 1000000 ≤ LIM))]
  · rw [Res.bind_ok, show listOf? (h1 ++ [MO.lst ([] ++ xs.filterMap val)]) h1.length = some ([] ++ xs.filterMap val) from listOf_new]
    rfl
  · obtain ⟨σ', a1, a2⟩ := hg x hx t
    cases k : val x with
    | none =>
      rw [k] at a2
      exact stepC_none a1 a2
    | some y =>
      rw [k] at a2
      exact stepC_some a1 a2.1 a2.2
def T_spring : Tell := fun ds h r h' => ∀ zs : List Int, ds = [.lst (zs.map .int)] → zs.length ≤ 63 → h = [] → ∃ b : Br, r = .ref 1 ∧ h' = hb b [] ∧ b.ok
noncomputable def G_law_spring : Gam := gamL [] []
theorem N_law_spring : c_law_spring.N = (["script", "great", "cell", "mixed"] : List Str) := rfl
noncomputable def d_law_spring : List D → Hm → Res D := denT G_law_spring c_law_spring.N 1 b_law_spring T_spring
theorem sp_law_spring {ds : List D} {h : Hm} (hl : ds.length = 1) (w : wpB G_law_spring b_law_spring (startD c_law_spring.N ds) h (PoT T_spring ds h)) : ∃ r h2, d_law_spring ds h = .ok r h2 ∧ T_spring ds h r h2 := denT_ok hl w
theorem ub_law_spring_5 {Γ : Gam} {σ : Sg} {h : Hm} {P : Po} : wpB Γ b_law_spring_5 σ h P = wpB Γ (.cons (.set 3 (.op2 .mod (.bi .int (.cons (.op2 .add (.op2 .add (.op2 .mul (.v 3) (.int 982451653)) (.op2 .mul (.v 2) (.int 49979687))) (.int 32452843)) .nil)) (.int 2305843009213693951))) .nil) σ h P := rfl
theorem ub_law_spring_4 {Γ : Gam} {σ : Sg} {h : Hm} {P : Po} : wpB Γ b_law_spring_4 σ h P = wpB Γ (.cons (.ret (.lstM (.cons (.v 1) (.cons (.v 3) (.cons (.int 0) .nil))))) .nil) σ h P := rfl
theorem ub_law_spring_3 {Γ : Gam} {σ : Sg} {h : Hm} {P : Po} : wpB Γ b_law_spring_3 σ h P = wpB Γ (.cons (.for_ (.v 2) (.ex (.v 0)) b_law_spring_5) b_law_spring_4) σ h P := rfl
theorem ub_law_spring_2 {Γ : Gam} {σ : Sg} {h : Hm} {P : Po} : wpB Γ b_law_spring_2 σ h P = wpB Γ (.cons (.set 3 (.op2 .add (.int 15485863) (.op2 .mul (.int 2) (.bi .len (.cons (.v 0) .nil))))) b_law_spring_3) σ h P := rfl
theorem ub_law_spring {Γ : Gam} {σ : Sg} {h : Hm} {P : Po} : wpB Γ b_law_spring σ h P = wpB Γ (.cons (.set 1 (.comp true [("cell", 2)] (.v 2) (.ex (.v 0)) (.cons (.cmp .ge (.v 2) (.op2 .pow (.int 10) (.int 18))) .nil) (.op2 .sub (.v 2) (.op2 .pow (.int 10) (.int 18))))) b_law_spring_2) σ h P := rfl
local macro_rules | `(tactic| fail "mini u_law_spring") => `(tactic| simp only [N_law_spring, opn_tup, opn_lst, opn_int, opn_str, opn_bl, opn_non, eq_self, ub_law_spring_5, ub_law_spring_4, ub_law_spring_3, ub_law_spring_2, ub_law_spring])
local macro_rules | `(tactic| fail "mini x_law_spring") => `(tactic| repeat (first | fail "mini fw" | fail "mini u_law_spring" | fail "mini fxx"))
theorem fm_ints (zs : List Int) (f : Int → Option Int) : ∃ ws : List Int, (zs.filterMap fun z => (f z).map D.int) = ws.map D.int := ⟨zs.filterMap f, by rw [List.map_filterMap]⟩
theorem s_spring {zs : List Int} (hl : zs.length ≤ 63) : ∃ b : Br, d_law_spring [.lst (zs.map .int)] [] = .ok (.ref 1) (hb b []) ∧ b.ok := by
  have w : wpB G_law_spring b_law_spring (startD c_law_spring.N [.lst (zs.map .int)]) [] (PoT T_spring [.lst (zs.map .int)] []) := by
    fail "mini x_law_spring"
    obtain ⟨ws, hws⟩ := fm_ints zs fun z => if 1000000000000000000 ≤ z then some (z - 1000000000000000000) else none
    rw [compR_M zs D.int (fun z => (if 1000000000000000000 ≤ z then some (z - 1000000000000000000) else none).map D.int) (fun z hz t => ⟨_, rfl, ?_⟩) (by omega), hws]
    · fail "mini x_law_spring"
      rw [List.length_map, mulOk_l (by decide) (by decide)]
      fail "mini x_law_spring"
      refine L_for (fun i σ h2 => h2 = [.lst (ws.map .int)] ∧ ∃ (x : Option D) (p : Int), σ = [some (.lst (zs.map .int)), some (.ref 0), x, some (.int p)] ∧ 0 ≤ p ∧ p < 2305843009213693952) ⟨rfl, none, _, rfl, by omega, by omega⟩ ?_ ?_
      · rintro i d σ h2 hi ⟨rfl, x, p, rfl, p0, p1⟩
        rw [List.getElem?_map] at hi
        cases hc : zs[i]? with
        | none => rw [hc] at hi; cases hi
        | some z =>
          rw [hc] at hi
          cases hi
          refine ⟨_, rfl, ?_⟩
          fail "mini x_law_spring"
          rw [mulOk_r (by decide) (by decide), mulOk_r (by decide) (by decide)]
          fail "mini x_law_spring"
          have q0 := Int.emod_nonneg (p * 982451653 + z * 49979687 + 32452843) (show (2305843009213693951 : Int) ≠ 0 by decide)
          have q1 := Int.emod_lt_of_pos (p * 982451653 + z * 49979687 + 32452843) (show (0 : Int) < 2305843009213693951 by decide)
          exact ⟨trivial, _, _, rfl, q0, by omega⟩
      · rintro σ h2 ⟨rfl, x, p, rfl, p0, p1⟩
        fail "mini x_law_spring"
        refine po_rt fun zs2 e _ _ => ⟨⟨ws, p, 0⟩, rfl, rfl, p0, p1⟩
    · by_cases c : 1000000000000000000 ≤ z
      · rw [if_pos c]
        simp only [Option.map_some]
        fail "mini x_law_spring"
        rw [decide_eq_true c]
        exact ⟨rfl, trivial⟩
      · rw [if_neg c]
        simp only [Option.map_none]
        fail "mini x_law_spring"
        rw [decide_eq_false c]
  obtain ⟨r, h2, e, T⟩ := sp_law_spring rfl w
  obtain ⟨b, rfl, rfl, o⟩ := T zs rfl hl rfl
  exact ⟨b, e, o⟩
/-! pick -/
theorem lK {b : Br} {t : Hm} {k : Nat} {xs : List D} (e : t[k]? = some (.lst xs)) : listOf? (hb b t) (k + 2) = some xs := by
  show (match (hb b t)[k + 2]? with | some (.lst xs) => some xs | _ => none) = _
  rw [hb_at, e]
theorem len_ref {h : Hm} {n : Nat} {xs : List D} (e : listOf? h n = some xs) : biD .len [.ref n] h = .ok (.int xs.length) h := by
  rw [bi_len _ _ (fun _ z => by cases z) (fun _ z => by cases z)]
  show (match listOf? h n with | some xs => _ | none => _) = _
  rw [e]
theorem tup_ref {h : Hm} {n : Nat} {xs : List D} (e : listOf? h n = some xs) : biD .tuple [.ref n] h = .ok (.tup xs) h := by
  show (match listOf? h n with | some xs => _ | none => _) = _
  rw [e]
theorem rngD_map : ∀ (n : Nat) (lo : Int), rngD lo n = (List.range n).map fun i : Nat => D.int (lo + i)
  | 0, _ => rfl
  | n + 1, lo => by
    show D.int lo :: rngD (lo + 1) n = _
    rw [rngD_map n (lo + 1), List.range_succ_eq_map, List.map_cons, List.map_map]
    congr 1
    · simp
    · apply List.map_congr_left
      intro i _
      show D.int _ = D.int _
      congr 1
      simp only [Nat.succ_eq_add_one, Int.natCast_add]
      omega
theorem rngD_map0 (n : Nat) : rngD 0 n = (List.range n).map fun i : Nat => D.int i := by
  rw [rngD_map]
  apply List.map_congr_left
  intro i _
  rw [Int.zero_add]
theorem lN {b : Br} {t : Hm} {xs : List D} : listOf? (hb b (t ++ [MO.lst xs])) (t.length + 2) = some xs := lK (by simp)
theorem sN {b : Br} {t : Hm} {o o' : MO} : (hb b (t ++ [o])).set (t.length + 2) o' = hb b (t ++ [o']) := by
  rw [hb_set]
  simp
theorem eq_nilP {h : Hm} {n k : Nat} {xs : List D} (hk : k ≤ 63) (e : listOf? h n = some xs) (p : plainD (k + 1) (.lst xs) = true) : eqD (.ref n) (.lst []) h = .ok xs.isEmpty h := by
  obtain ⟨q, a1, a2, a3, _⟩ := plain_py (k + 1) _ p
  obtain ⟨ps, e2, rfl⟩ : ∃ ps, toPys xs = some ps ∧ q = .list ps := by
    have a1 : (toPys xs).map PyData.list = some q := a1
    cases e : toPys xs with
    | none => rw [e] at a1; cases a1
    | some ps => rw [e] at a1; cases a1; exact ⟨_, rfl, rfl⟩
  unfold eqD
  rw [show toPyH h (.ref n) = some (.list ps) by show ((listOf? h n).bind toPys).map PyData.list = _; rw [e]; show (toPys xs).map PyData.list = _; rw [e2]; rfl, show toPyH h (.lst []) = some (.list []) from rfl]
  have s1 : SeqAt.shaped (.list ps) = true := by
    unfold SeqAt.shaped
    rw [a2, decide_eq_true (show (PyData.list ps).depth ≤ 64 by omega)]
    rfl
  dsimp only
  rw [s1]
  have hl := toPys_len e2
  cases ps with
  | nil =>
    have : xs = [] := List.length_eq_zero_iff.mp hl
    rw [this]
    rfl
  | cons p ps =>
    cases xs with
    | nil => cases hl
    | cons x xs => rfl
theorem eq_nilL {h : Hm} {k : Nat} {xs : List D} (hk : k ≤ 63) (p : plainD (k + 1) (.lst xs) = true) : eqD (.lst xs) (.lst []) h = .ok xs.isEmpty h := by
  obtain ⟨q, a1, a2, a3, _⟩ := plain_py (k + 1) _ p
  obtain ⟨ps, e2, rfl⟩ : ∃ ps, toPys xs = some ps ∧ q = .list ps := by
    have a1 : (toPys xs).map PyData.list = some q := a1
    cases e : toPys xs with
    | none => rw [e] at a1; cases a1
    | some ps => rw [e] at a1; cases a1; exact ⟨_, rfl, rfl⟩
  unfold eqD
  rw [show toPyH h (.lst xs) = some (.list ps) from a1, show toPyH h (.lst []) = some (.list []) from rfl]
  have s1 : SeqAt.shaped (.list ps) = true := by
    unfold SeqAt.shaped
    rw [a2, decide_eq_true (show (PyData.list ps).depth ≤ 64 by omega)]
    rfl
  dsimp only
  rw [s1]
  have hl := toPys_len e2
  cases ps with
  | nil =>
    have : xs = [] := List.length_eq_zero_iff.mp hl
    rw [this]
    rfl
  | cons p ps =>
    cases xs with
    | nil => cases hl
    | cons x xs => rfl
theorem plain_str {k : Nat} {x : Str} (h : PyData.strOk x = true) : plainD k (.str x) = true := by cases k <;> exact h
theorem plain_lit {k : Nat} {x : String} : plainD k (.str (Str.ofString x)) = true := plain_str ok_lit
theorem plain_int {k : Nat} {i : Int} : plainD k (.int i) = true := by cases k <;> rfl
theorem plain_tup {k : Nat} {xs : List D} (l : xs.length ≤ 1000) (a : xs.all (plainD k) = true) : plainD (k + 1) (.tup xs) = true := by
  show (decide (xs.length ≤ 1000) && xs.all (plainD k)) = true
  rw [decide_eq_true l, a] <;> rfl
theorem plain_lst {k : Nat} {xs : List D} (l : xs.length ≤ 1000) (a : xs.all (plainD k) = true) : plainD (k + 1) (.lst xs) = true := by
  show (decide (xs.length ≤ 1000) && xs.all (plainD k)) = true
  rw [decide_eq_true l, a] <;> rfl
local macro_rules | `(tactic| fail "mini fxx") => `(tactic| simp only [hb_app, hb_len, lN, sN])
theorem n_drop {b : Br} {t : Hm} (many : Int) (o : b.ok) (m0 : 0 < many) (m1 : many < 2 ^ 64) : ∃ (n : Nat) (b' : Br), d_law_drop [.ref 1, .int many] (hb b t) = .ok (.int n) (hb b' t) ∧ b'.ok ∧ (n : Int) < many := by
  obtain ⟨_, _, e, b', n, rfl, rfl, o', n0, n1⟩ := s_drop (t := t) o m0 (dvm m0 m1)
  obtain ⟨n, rfl⟩ : ∃ N : Nat, n = N := ⟨n.toNat, by omega⟩
  exact ⟨n, b', e, o', n1⟩

theorem n_dropB {b : Br} {t : Hm} (many : Int) (o : b.ok) (m0 : 0 < many) (m1 : divOk many = true) : ∃ (n : Nat) (b' : Br), d_law_drop [.ref 1, .int many] (hb b t) = .ok (.int n) (hb b' t) ∧ b'.ok ∧ (n : Int) < many := by
  obtain ⟨_, _, e, b', n, rfl, rfl, o', n0, n1⟩ := s_drop (t := t) o m0 m1
  obtain ⟨n, rfl⟩ : ∃ N : Nat, n = N := ⟨n.toNat, by omega⟩
  exact ⟨n, b', e, o', n1⟩

/-! fractions -/
def isIntD : D → Bool
  | .int _ => true
  | _ => false
theorem gcd_step (a b : Int) : Int.gcd b (a % b) = Int.gcd a b := by
  have h : a = a % b + b * (a / b) := by rw [Int.emod_add_mul_ediv]
  conv => rhs; rw [h]
  rw [Int.gcd_add_mul_left_left]
  exact Int.gcd_comm _ _
theorem abs_if (t : Int) : (if t < 0 then -t else t) = (t.natAbs : Int) := by split <;> omega
theorem gcd_abs (t b : Int) : Int.gcd (t.natAbs : Int) (b.natAbs : Int) = Int.gcd b t := by
  rw [Int.gcd_comm]; simp [Int.gcd]
theorem low_pos {t b : Int} (hb : 0 < b) : t.fdiv (Int.gcd b t : Int) = (Rat.divInt t b).num ∧ b.fdiv (Int.gcd b t : Int) = (Rat.divInt t b).den := by
  rw [Int.fdiv_eq_ediv_of_nonneg _ (by omega), Int.fdiv_eq_ediv_of_nonneg _ (by omega), Rat.num_divInt, Rat.den_divInt, if_neg (by omega), Int.sign_eq_one_of_pos hb, Int.one_mul]
  refine ⟨rfl, ?_⟩
  rw [Int.natCast_ediv, Int.natAbs_of_nonneg (by omega)]
theorem low_neg {t b : Int} (hb : b < 0) : t.fdiv (-(Int.gcd b t : Int)) = (Rat.divInt t b).num ∧ b.fdiv (-(Int.gcd b t : Int)) = (Rat.divInt t b).den := by
  have e1 : t.fdiv (-(Int.gcd b t : Int)) = (-t).fdiv (Int.gcd b t : Int) := by
    have := Int.neg_fdiv_neg (-t) (Int.gcd b t : Int)
    rwa [Int.neg_neg] at this
  have e2 : b.fdiv (-(Int.gcd b t : Int)) = (-b).fdiv (Int.gcd b t : Int) := by
    have := Int.neg_fdiv_neg (-b) (Int.gcd b t : Int)
    rwa [Int.neg_neg] at this
  rw [e1, e2, Int.fdiv_eq_ediv_of_nonneg _ (by omega), Int.fdiv_eq_ediv_of_nonneg _ (by omega), Rat.num_divInt, Rat.den_divInt, if_neg (by omega), Int.sign_eq_neg_one_of_neg hb, Int.neg_one_mul]
  refine ⟨rfl, ?_⟩
  rw [Int.natCast_ediv]
  congr 1
  omega
theorem log2_mono' {a b : Nat} (h : a ≤ b) : a.log2 ≤ b.log2 := by
  rcases Nat.eq_zero_or_pos a with rfl | ha
  · simp
  · exact (Nat.le_log2 (by omega)).mpr (Nat.le_trans (Nat.log2_self_le (by omega)) h)
theorem gcd_le' {t b : Int} (hb : b ≠ 0) : Int.gcd b t ≤ b.natAbs := Nat.le_of_dvd (by omega) (by unfold Int.gcd; exact Nat.gcd_dvd_left _ _)
theorem gcd_pos' {t b : Int} (hb : b ≠ 0) : 0 < Int.gcd b t := Int.gcd_pos_of_ne_zero_left _ hb
def fr (q : Rat) : D := .tup [.int q.num, .int q.den]
theorem fr_inj {p q : Rat} (h : fr p = fr q) : p = q := by
  have h : D.tup [.int p.num, .int p.den] = D.tup [.int q.num, .int q.den] := h
  simp only [D.tup.injEq, List.cons.injEq, D.int.injEq, and_true] at h
  exact Rat.ext h.1 (by omega)
def okDen (b : Int) : Bool := decide (b ≠ 0) && decide (b.natAbs.log2 < 9000)
theorem okDen_ne {b : Int} (h : okDen b = true) : b ≠ 0 := by
  unfold okDen at h
  rw [Bool.and_eq_true, decide_eq_true_eq] at h
  exact h.1
def isFr : D → Bool
  | .tup [.int a, .int b] => decide (0 < b) && decide (Int.gcd a b = 1)
  | _ => false
theorem isFr_fr (q : Rat) : isFr (fr q) = true := by
  show (decide (0 < (q.den : Int)) && decide (Int.gcd q.num q.den = 1)) = true
  have h1 := q.den_pos
  have h2 : Int.gcd q.num (q.den : Int) = 1 := q.reduced
  rw [decide_eq_true (by omega), decide_eq_true h2]
  rfl
theorem mulOk_one (i : Int) : mulOk i 1 = true := by
  unfold mulOk
  have : (decide (-(2 ^ 64 : Int) < 1) && decide ((1 : Int) < 2 ^ 64)) = true := by decide
  rw [this, Bool.or_true]
theorem mulOk_neg (i : Int) : mulOk i (-1) = true := by
  unfold mulOk
  have : (decide (-(2 ^ 64 : Int) < -1) && decide ((-1 : Int) < 2 ^ 64)) = true := by decide
  rw [this, Bool.or_true]
def bd (n : Nat) (q : Rat) : Prop := q.num.natAbs < 2 ^ n ∧ q.den < 2 ^ n
theorem bd.mono {n m : Nat} {q : Rat} (h : bd n q) (l : n ≤ m) : bd m q :=
  ⟨Nat.lt_of_lt_of_le h.1 (Nat.pow_le_pow_right (by decide) l), Nat.lt_of_lt_of_le h.2 (Nat.pow_le_pow_right (by decide) l)⟩
theorem lt_pow_mul {a b n m : Nat} (h1 : a < 2 ^ n) (h2 : b < 2 ^ m) : a * b < 2 ^ (n + m) := by
  rw [Nat.pow_add]
  exact Nat.mul_lt_mul'' h1 h2
theorem log_lt {a n : Nat} (h : a < 2 ^ n) (hn : 0 < n) : a.log2 < n := by
  rcases Nat.eq_zero_or_pos a with rfl | ha
  · simpa using hn
  · exact (Nat.log2_lt (by omega)).mpr h
theorem mulOk_bd {i j : Int} {n m : Nat} (h1 : i.natAbs < 2 ^ n) (h2 : j.natAbs < 2 ^ m) (hn : 0 < n) (hm : 0 < m) (l : n + m ≤ 1000000) : mulOk i j = true := by
  have a := log_lt h1 hn
  have b := log_lt h2 hm
  unfold mulOk
  rw [decide_eq_true (show i.natAbs.log2 + j.natAbs.log2 < 1000000 by omega)]
  rfl
theorem okDen_bd {b : Int} {n : Nat} (h0 : b ≠ 0) (h : b.natAbs < 2 ^ n) (hn : 0 < n) (l : n ≤ 9000) : okDen b = true := by
  have a := log_lt h hn
  unfold okDen
  rw [decide_eq_true h0, decide_eq_true (show b.natAbs.log2 < 9000 by omega)]
  rfl
theorem divInt_bd {t b : Int} {n : Nat} (h0 : b ≠ 0) (h1 : t.natAbs < 2 ^ n) (h2 : b.natAbs < 2 ^ n) : bd n (Rat.divInt t b) := by
  unfold bd
  rw [Rat.num_divInt, Rat.den_divInt, if_neg h0]
  refine ⟨Nat.lt_of_le_of_lt ?_ h1, Nat.lt_of_le_of_lt (Nat.div_le_self _ _) h2⟩
  rw [Int.natAbs_ediv_of_dvd (Int.dvd_trans (Int.gcd_dvd_right _ _) (Int.dvd_mul_left _ _)), Int.natAbs_mul]
  refine Nat.le_trans (Nat.div_le_self _ _) ?_
  rcases Int.lt_trichotomy b 0 with c | c | c
  · rw [Int.sign_eq_neg_one_of_neg c]
    simp
  · exact absurd c h0
  · rw [Int.sign_eq_one_of_pos c]
    simp
theorem den_ne (q : Rat) : (q.den : Int) ≠ 0 := by
  have := q.den_pos
  omega
theorem rat_self (q : Rat) : Rat.divInt q.num q.den = q := Rat.num_divInt_den q
theorem add_eq (p q : Rat) : Rat.divInt (p.num * q.den + q.num * p.den) (p.den * q.den) = p + q := by
  rw [← Rat.divInt_add_divInt _ _ (den_ne p) (den_ne q), rat_self, rat_self]
theorem mul_eq (p q : Rat) : Rat.divInt (p.num * q.num) (p.den * q.den) = p * q := by
  rw [← Rat.divInt_mul_divInt, rat_self, rat_self]
theorem sub_eq (p q : Rat) : Rat.divInt (p.num * q.den - q.num * p.den) (p.den * q.den) = p - q := by
  have := add_eq p (-q)
  rw [Rat.neg_num, Rat.neg_den, Int.neg_mul, ← Int.sub_eq_add_neg, ← Rat.sub_eq_add_neg] at this
  exact this
theorem num_ne {q : Rat} (h : q ≠ 0) : q.num ≠ 0 := fun z => h (by
  rw [← rat_self q, z]
  simp)
theorem div_eq {p q : Rat} (h : q ≠ 0) : Rat.divInt (p.num * q.den) (p.den * q.num) = p / q := by
  have e : Rat.divInt (q.num) (q.den) = q := rat_self q
  have e2 : q⁻¹ = Rat.divInt q.den q.num := by
    conv => lhs; rw [← e]
    exact Rat.inv_divInt _ _
  rw [Rat.div_def, e2]
  conv => rhs; lhs; rw [← rat_self p]
  rw [Rat.divInt_mul_divInt]
theorem bd_add {n m : Nat} {p q : Rat} (h1 : bd n p) (h2 : bd m q) : bd (n + m + 1) (p + q) := by
  rw [← add_eq]
  have hd : (p.den : Int) * q.den ≠ 0 := Int.mul_ne_zero (den_ne p) (den_ne q)
  refine divInt_bd hd ?_ ?_
  · have a1 := lt_pow_mul h1.1 h2.2
    have a2 := lt_pow_mul h2.1 h1.2
    rw [Nat.add_comm m n] at a2
    have e := Int.natAbs_add_le (p.num * (q.den : Int)) (q.num * (p.den : Int))
    rw [Int.natAbs_mul, Int.natAbs_mul, Int.natAbs_natCast, Int.natAbs_natCast] at e
    rw [Nat.pow_succ]
    generalize 2 ^ (n + m) = z at a1 a2
    omega
  · rw [Int.natAbs_mul, Int.natAbs_natCast, Int.natAbs_natCast]
    exact Nat.lt_of_lt_of_le (lt_pow_mul h1.2 h2.2) (Nat.pow_le_pow_right (by decide) (Nat.le_succ _))
theorem bd_neg {n : Nat} {q : Rat} (h : bd n q) : bd n (-q) := by
  unfold bd
  rw [Rat.neg_num, Rat.neg_den, Int.natAbs_neg]
  exact h
theorem bd_sub {n m : Nat} {p q : Rat} (h1 : bd n p) (h2 : bd m q) : bd (n + m + 1) (p - q) := by
  rw [Rat.sub_eq_add_neg]
  exact bd_add h1 (bd_neg h2)
theorem bd_mul {n m : Nat} {p q : Rat} (h1 : bd n p) (h2 : bd m q) : bd (n + m) (p * q) := by
  rw [← mul_eq]
  have hd : (p.den : Int) * q.den ≠ 0 := Int.mul_ne_zero (den_ne p) (den_ne q)
  refine divInt_bd hd ?_ ?_
  · rw [Int.natAbs_mul]
    exact lt_pow_mul h1.1 h2.1
  · rw [Int.natAbs_mul, Int.natAbs_natCast, Int.natAbs_natCast]
    exact lt_pow_mul h1.2 h2.2
theorem bd_div {n m : Nat} {p q : Rat} (h1 : bd n p) (h2 : bd m q) (h : q ≠ 0) : bd (n + m) (p / q) := by
  rw [← div_eq h]
  have hd : (p.den : Int) * q.num ≠ 0 := Int.mul_ne_zero (den_ne p) (num_ne h)
  refine divInt_bd hd ?_ ?_
  · rw [Int.natAbs_mul, Int.natAbs_natCast]
    exact lt_pow_mul h1.1 h2.2
  · rw [Int.natAbs_mul, Int.natAbs_natCast]
    exact lt_pow_mul h1.2 h2.1

theorem mNN {p q : Rat} (h1 : bd 4400 p) (h2 : bd 4400 q) : mulOk p.num q.num = true := mulOk_bd h1.1 h2.1 (by decide) (by decide) (by decide)
theorem mND {p q : Rat} (h1 : bd 4400 p) (h2 : bd 4400 q) : mulOk p.num (q.den : Int) = true := mulOk_bd (j := (q.den : Int)) h1.1 (by rw [Int.natAbs_natCast]; exact h2.2) (by decide) (by decide) (by decide)
theorem mDN {p q : Rat} (h1 : bd 4400 p) (h2 : bd 4400 q) : mulOk (p.den : Int) q.num = true := mulOk_bd (i := (p.den : Int)) (by rw [Int.natAbs_natCast]; exact h1.2) h2.1 (by decide) (by decide) (by decide)
theorem mDD {p q : Rat} (h1 : bd 4400 p) (h2 : bd 4400 q) : mulOk (p.den : Int) (q.den : Int) = true := mulOk_bd (i := (p.den : Int)) (j := (q.den : Int)) (by rw [Int.natAbs_natCast]; exact h1.2) (by rw [Int.natAbs_natCast]; exact h2.2) (by decide) (by decide) (by decide)
theorem dDD {p q : Rat} (h1 : bd 4400 p) (h2 : bd 4400 q) : okDen ((p.den : Int) * q.den) = true := okDen_bd (n := 4400 + 4400) (Int.mul_ne_zero (den_ne p) (den_ne q)) (by
  rw [Int.natAbs_mul, Int.natAbs_natCast, Int.natAbs_natCast]
  exact lt_pow_mul h1.2 h2.2) (by decide) (by decide)
theorem dDN {p q : Rat} (h1 : bd 4400 p) (h2 : bd 4400 q) (h : q ≠ 0) : okDen ((p.den : Int) * q.num) = true := okDen_bd (n := 4400 + 4400) (Int.mul_ne_zero (den_ne p) (num_ne h)) (by
  rw [Int.natAbs_mul, Int.natAbs_natCast]
  exact lt_pow_mul h1.2 h2.1) (by decide) (by decide)
theorem bd_zero : bd 1 0 := ⟨by decide, by decide⟩
theorem fdiv_ok {b : Int} {t : Int} (h0 : b ≠ 0) (h1 : b.natAbs.log2 < 9000) : divOk ((Int.gcd b t : Int)) = true ∧ divOk (-(Int.gcd b t : Int)) = true := by
  have hg := gcd_pos' (t := t) h0
  have hl : (Int.gcd b t).log2 < 9000 := Nat.lt_of_le_of_lt (log2_mono' (gcd_le' h0)) h1
  exact ⟨divOk_of (by omega) (by rw [Int.natAbs_natCast]; exact hl), divOk_of (by omega) (by rw [Int.natAbs_neg, Int.natAbs_natCast]; exact hl)⟩
def P_common : List D → D → Prop := fun ds r => ∃ a b : Int, ds = [.int a, .int b] ∧ 0 ≤ a ∧ 0 ≤ b ∧ r = .int (Int.gcd a b : Nat)
noncomputable def G_common : Gam := gamL [] []
theorem N_common : c_common.N = (["one", "other"] : List Str) := rfl
noncomputable def d_common : List D → Hm → Res D := denT G_common c_common.N 2 b_common (TR P_common)
theorem sp_common {ds : List D} {h : Hm} (hl : ds.length = 2) (w : wpB G_common b_common (startD c_common.N ds) h (PoT (TR P_common) ds h)) : ∃ r h2, d_common ds h = .ok r h2 ∧ (TR P_common) ds h r h2 := denT_ok hl w
theorem ub_common_3 {Γ : Gam} {σ : Sg} {h : Hm} {P : Po} : wpB Γ b_common_3 σ h P = wpB Γ (.cons (.par 0 1 (.v 1) (.op2 .mod (.v 0) (.v 1))) .nil) σ h P := rfl
theorem ub_common_2 {Γ : Gam} {σ : Sg} {h : Hm} {P : Po} : wpB Γ b_common_2 σ h P = wpB Γ (.cons (.ret (.v 0)) .nil) σ h P := rfl
theorem ub_common {Γ : Gam} {σ : Sg} {h : Hm} {P : Po} : wpB Γ b_common σ h P = wpB Γ (.cons (.while_ (.cmp .gt (.v 1) (.int 0)) b_common_3) b_common_2) σ h P := rfl
local macro_rules | `(tactic| fail "mini u_common") => `(tactic| simp only [N_common, opn_tup, opn_lst, opn_int, opn_str, opn_bl, opn_non, eq_self, ub_common_3, ub_common_2, ub_common])
local macro_rules | `(tactic| fail "mini x_common") => `(tactic| repeat (first | fail "mini fw" | fail "mini u_common" | fail "mini fxx"))
theorem e_common {a b : Int} {h : Hm} (ha : 0 ≤ a) (hb : 0 ≤ b) : d_common [.int a, .int b] h = .ok (.int (Int.gcd a b : Nat)) h := by
  refine den_TR rfl (by rintro v' ⟨a2, b2, e, _, _, rfl⟩; obtain ⟨e1, e2⟩ := in2 e; cases e1; cases e2; rfl) ⟨a, b, rfl, ha, hb, rfl⟩ ?_
  fail "mini x_common"
  refine L_while (m := b.toNat) (fun m σ h1 => ∃ x y : Int, σ = [some (.int x), some (.int y)] ∧ h1 = h ∧ 0 ≤ x ∧ 0 ≤ y ∧ y.toNat = m ∧ Int.gcd x y = Int.gcd a b) ⟨a, b, rfl, rfl, ha, hb, rfl, rfl⟩ ?_
  rintro m σ h1 ⟨x, y, rfl, rfl, hx, hy, rfl, hg⟩
  fail "mini x_common"
  by_cases c : 0 < y
  · rw [decide_eq_true c]
    refine And.intro (fun _ => ?_) (fun z => by cases z)
    fail "mini x_common"
    refine ⟨(x % y).toNat, ?_, y, x % y, rfl, trivial, hy, Int.emod_nonneg _ (by omega), rfl, by rw [gcd_step, hg]⟩
    have := Int.emod_lt_of_pos x c
    omega
  · rw [decide_eq_false c]
    refine And.intro (fun z => by cases z) (fun _ => ?_)
    fail "mini x_common"
    have e : y = 0 := by omega
    subst e
    rw [← hg, Int.gcd_zero_right, Int.natAbs_of_nonneg hx]
    exact .refl
def P_fraction : List D → D → Prop := fun ds r => ∃ t b : Int, ds = [.int t, .int b] ∧ okDen b = true ∧ r = fr (Rat.divInt t b)
theorem tb_uniq {ds : List D} {r r' : D} (a : P_fraction ds r) (b : P_fraction ds r') : r = r' := by
  obtain ⟨t, c, rfl, _, rfl⟩ := a
  obtain ⟨t2, c2, e, _, rfl⟩ := b
  obtain ⟨e1, e2⟩ := in2 e
  cases e1
  cases e2
  rfl
def P_lowest := P_fraction
noncomputable def G_lowest : Gam := gamL [(n_common, d_common)] []
theorem cg_lowest_common {ds : List D} {h : Hm} : callG G_lowest n_common ds h = d_common ds h := rfl
theorem N_lowest : c_lowest.N = (["top", "bottom", "factor"] : List Str) := rfl
noncomputable def d_lowest : List D → Hm → Res D := denT G_lowest c_lowest.N 2 b_lowest (TR P_lowest)
theorem sp_lowest {ds : List D} {h : Hm} (hl : ds.length = 2) (w : wpB G_lowest b_lowest (startD c_lowest.N ds) h (PoT (TR P_lowest) ds h)) : ∃ r h2, d_lowest ds h = .ok r h2 ∧ (TR P_lowest) ds h r h2 := denT_ok hl w
theorem ub_lowest_2 {Γ : Gam} {σ : Sg} {h : Hm} {P : Po} : wpB Γ b_lowest_2 σ h P = wpB Γ (.cons (.ret (.tup (.cons (.op2 .fdiv (.v 0) (.v 2)) (.cons (.op2 .fdiv (.v 1) (.v 2)) .nil)))) .nil) σ h P := rfl
theorem ub_lowest {Γ : Gam} {σ : Sg} {h : Hm} {P : Po} : wpB Γ b_lowest σ h P = wpB Γ (.cons (.set 2 (.op2 .mul (.call n_common (.cons (.bi .abs (.cons (.v 0) .nil)) (.cons (.bi .abs (.cons (.v 1) .nil)) .nil))) (.ifx (.cmp .gt (.v 1) (.int 0)) (.int 1) (.neg (.int 1))))) b_lowest_2) σ h P := rfl
local macro_rules | `(tactic| fail "mini u_lowest") => `(tactic| simp only [N_lowest, cg_lowest_common, e_common, opn_tup, opn_lst, opn_int, opn_str, opn_bl, opn_non, eq_self, ub_lowest_2, ub_lowest])
local macro_rules | `(tactic| fail "mini x_lowest") => `(tactic| repeat (first | fail "mini fw" | fail "mini u_lowest" | fail "mini fxx"))
theorem e_lowest {t b : Int} {h : Hm} (ho : okDen b = true) : d_lowest [.int t, .int b] h = .ok (fr (Rat.divInt t b)) h := by
  refine den_TR rfl (fun v' q => tb_uniq q ⟨t, b, rfl, ho, rfl⟩) ⟨t, b, rfl, ho, rfl⟩ ?_
  unfold okDen at ho
  rw [Bool.and_eq_true, decide_eq_true_eq, decide_eq_true_eq] at ho
  obtain ⟨f1, f2⟩ := fdiv_ok (t := t) ho.1 ho.2
  fail "mini x_lowest"
  rw [abs_if, abs_if, e_common (by omega) (by omega), gcd_abs]
  fail "mini x_lowest"
  by_cases c : 0 < b
  · rw [if_pos c]
    fail "mini x_lowest"
    rw [mulOk_one, Int.mul_one]
    fail "mini x_lowest"
    rw [f1]
    fail "mini x_lowest"
    rw [(low_pos c).1, (low_pos c).2]
    exact .refl
  · rw [if_neg c]
    fail "mini x_lowest"
    rw [mulOk_neg, show (Int.gcd b t : Int) * -1 = -(Int.gcd b t : Int) by omega]
    fail "mini x_lowest"
    rw [f2]
    fail "mini x_lowest"
    rw [(low_neg (by omega)).1, (low_neg (t := t) (b := b) (by omega)).2]
    exact .refl
def BD (q : Rat) : Prop := bd 4400 q
def P_bin (c : Rat → Rat → Prop) (f : Rat → Rat → D) : List D → D → Prop := fun ds r => ∃ p q : Rat, ds = [fr p, fr q] ∧ BD p ∧ BD q ∧ c p q ∧ r = f p q
theorem bin_uniq {c : Rat → Rat → Prop} {f : Rat → Rat → D} {ds : List D} {r r' : D} (a : P_bin c f ds r) (b : P_bin c f ds r') : r = r' := by
  obtain ⟨p, q, rfl, _, _, _, rfl⟩ := a
  obtain ⟨p2, q2, e, _, _, _, rfl⟩ := b
  obtain ⟨e1, e2⟩ := in2 e
  rw [fr_inj e1, fr_inj e2]
def P_minus := P_bin (fun _ _ => True) fun p q => fr (p - q)
def P_plus := P_bin (fun _ _ => True) fun p q => fr (p + q)
def P_times := P_bin (fun _ _ => True) fun p q => fr (p * q)
def P_over := P_bin (fun _ q => q ≠ 0) fun p q => fr (p / q)
def P_below := P_bin (fun _ _ => True) fun p q => .bl (decide (p < q))
theorem fr_eq (q : Rat) : fr q = .tup [.int q.num, .int q.den] := rfl
def P_is_integer : List D → D → Prop := fun ds r => ∃ i : Int, ds = [.int i] ∧ r = .bl true
noncomputable def G_is_integer : Gam := gamL [] []
theorem N_is_integer : c_is_integer.N = (["value"] : List Str) := rfl
noncomputable def d_is_integer : List D → Hm → Res D := denT G_is_integer c_is_integer.N 1 b_is_integer (TR P_is_integer)
theorem sp_is_integer {ds : List D} {h : Hm} (hl : ds.length = 1) (w : wpB G_is_integer b_is_integer (startD c_is_integer.N ds) h (PoT (TR P_is_integer) ds h)) : ∃ r h2, d_is_integer ds h = .ok r h2 ∧ (TR P_is_integer) ds h r h2 := denT_ok hl w
theorem ub_is_integer {Γ : Gam} {σ : Sg} {h : Hm} {P : Po} : wpB Γ b_is_integer σ h P = wpB Γ (.cons (.ret (.band (.isi (.v 0) .int) (.bnot (.isi (.v 0) .bool)))) .nil) σ h P := rfl
local macro_rules | `(tactic| fail "mini u_is_integer") => `(tactic| simp only [N_is_integer, opn_tup, opn_lst, opn_int, opn_str, opn_bl, opn_non, eq_self, ub_is_integer])
local macro_rules | `(tactic| fail "mini x_is_integer") => `(tactic| repeat (first | fail "mini fw" | fail "mini u_is_integer" | fail "mini fxx"))
theorem e_is_integer {i : Int} {h : Hm} : d_is_integer [.int i] h = .ok (.bl true) h := by
  refine den_TR rfl (by rintro v' ⟨_, _, rfl⟩; rfl) ⟨i, rfl, rfl⟩ ?_
  fail "mini x_is_integer"
  exact .refl
def P_is_fraction : List D → D → Prop := fun ds r => ∃ q : Rat, ds = [fr q] ∧ r = .bl true
noncomputable def G_is_fraction : Gam := gamL [(n_is_integer, d_is_integer), (n_common, d_common)] []
theorem cg_is_fraction_is_integer {ds : List D} {h : Hm} : callG G_is_fraction n_is_integer ds h = d_is_integer ds h := rfl
theorem cg_is_fraction_common {ds : List D} {h : Hm} : callG G_is_fraction n_common ds h = d_common ds h := rfl
theorem N_is_fraction : c_is_fraction.N = (["value"] : List Str) := rfl
noncomputable def d_is_fraction : List D → Hm → Res D := denT G_is_fraction c_is_fraction.N 1 b_is_fraction (TR P_is_fraction)
theorem sp_is_fraction {ds : List D} {h : Hm} (hl : ds.length = 1) (w : wpB G_is_fraction b_is_fraction (startD c_is_fraction.N ds) h (PoT (TR P_is_fraction) ds h)) : ∃ r h2, d_is_fraction ds h = .ok r h2 ∧ (TR P_is_fraction) ds h r h2 := denT_ok hl w
theorem ub_is_fraction_3 {Γ : Gam} {σ : Sg} {h : Hm} {P : Po} : wpB Γ b_is_fraction_3 σ h P = wpB Γ (.cons (.ret (.bl false)) .nil) σ h P := rfl
theorem ub_is_fraction_2 {Γ : Gam} {σ : Sg} {h : Hm} {P : Po} : wpB Γ b_is_fraction_2 σ h P = wpB Γ (.cons (.ret (.band (.cmp .gt (.ix (.v 0) (.int 1)) (.int 0)) (.cmp .eq (.call n_common (.cons (.bi .abs (.cons (.ix (.v 0) (.int 0)) .nil)) (.cons (.ix (.v 0) (.int 1)) .nil))) (.int 1)))) .nil) σ h P := rfl
theorem ub_is_fraction {Γ : Gam} {σ : Sg} {h : Hm} {P : Po} : wpB Γ b_is_fraction σ h P = wpB Γ (.cons (.ife (.bor (.bnot (.isi (.v 0) .tuple)) (.bor (.cmp .ne (.bi .len (.cons (.v 0) .nil)) (.int 2)) (.bor (.bnot (.call n_is_integer (.cons (.ix (.v 0) (.int 0)) .nil))) (.bnot (.call n_is_integer (.cons (.ix (.v 0) (.int 1)) .nil)))))) b_is_fraction_3 .nil) b_is_fraction_2) σ h P := rfl
local macro_rules | `(tactic| fail "mini u_is_fraction") => `(tactic| simp only [N_is_fraction, cg_is_fraction_is_integer, cg_is_fraction_common, e_is_integer, e_common, opn_tup, opn_lst, opn_int, opn_str, opn_bl, opn_non, eq_self, ub_is_fraction_3, ub_is_fraction_2, ub_is_fraction])
local macro_rules | `(tactic| fail "mini x_is_fraction") => `(tactic| repeat (first | fail "mini fw" | fail "mini u_is_fraction" | fail "mini fxx"))
theorem e_is_fraction {q : Rat} {h : Hm} : d_is_fraction [fr q] h = .ok (.bl true) h := by
  refine den_TR rfl (by rintro v' ⟨_, _, rfl⟩; rfl) ⟨q, rfl, rfl⟩ ?_
  rw [fr_eq q]
  have h1 := q.den_pos
  have h2 : Int.gcd (q.num.natAbs : Int) (q.den : Int) = 1 := by
    have : Int.gcd q.num (q.den : Int) = 1 := q.reduced
    rw [← this]
    simp [Int.gcd]
  fail "mini x_is_fraction"
  rw [decide_eq_true (show (0 : Int) < q.den by omega)]
  fail "mini x_is_fraction"
  rw [abs_if, e_common (by omega) (by omega), h2]
  fail "mini x_is_fraction"
  exact .refl

def P_chk1 : List D → D → Prop := fun ds r => ∃ q : Rat, ds = [.tup [fr q]] ∧ r = .non
noncomputable def G_check_fractions : Gam := gamL [(n_is_fraction, d_is_fraction)] []
theorem cg_check_fractions_is_fraction {ds : List D} {h : Hm} : callG G_check_fractions n_is_fraction ds h = d_is_fraction ds h := rfl
theorem N_check_fractions : c_check_fractions.N = (["numbers", "number"] : List Str) := rfl
noncomputable def d_check_fractions : List D → Hm → Res D := denT G_check_fractions c_check_fractions.N 1 b_check_fractions (TR P_chk1)
theorem sp_check_fractions {ds : List D} {h : Hm} (hl : ds.length = 1) (w : wpB G_check_fractions b_check_fractions (startD c_check_fractions.N ds) h (PoT (TR P_chk1) ds h)) : ∃ r h2, d_check_fractions ds h = .ok r h2 ∧ (TR P_chk1) ds h r h2 := denT_ok hl w
theorem ub_check_fractions_2 {Γ : Gam} {σ : Sg} {h : Hm} {P : Po} : wpB Γ b_check_fractions_2 σ h P = wpB Γ (.cons .never .nil) σ h P := rfl
theorem ub_check_fractions {Γ : Gam} {σ : Sg} {h : Hm} {P : Po} : wpB Γ b_check_fractions σ h P = wpB Γ (.cons (.ife (.bnot (.bi .all (.cons (.comp false [("number", 1)] (.v 1) (.ex (.v 0)) .nil (.call n_is_fraction (.cons (.v 1) .nil))) .nil))) b_check_fractions_2 .nil) .nil) σ h P := rfl
local macro_rules | `(tactic| fail "mini u_check_fractions") => `(tactic| simp only [N_check_fractions, cg_check_fractions_is_fraction, e_is_fraction, opn_tup, opn_lst, opn_int, opn_str, opn_bl, opn_non, eq_self, ub_check_fractions_2, ub_check_fractions])
local macro_rules | `(tactic| fail "mini x_check_fractions") => `(tactic| repeat (first | fail "mini fw" | fail "mini u_check_fractions" | fail "mini fxx"))
theorem e_check_fractions {q : Rat} {h : Hm} : d_check_fractions [.tup [fr q]] h = .ok .non h := by
  refine den_TR rfl (by rintro v' ⟨_, _, rfl⟩; rfl) ⟨q, rfl, rfl⟩ ?_
  fail "mini x_check_fractions"
  rw [show [fr q] = [q].map fr from rfl, compR_enc [q] fr (fun _ => .bl true) (fun q hq t => ⟨_, rfl, ?_⟩) (by simp) (fun _ _ => rfl), Res.bind_ok, all_bl]
  · rw [show ([q].all fun _ => true) = true by simp]
    fail "mini x_check_fractions"
    exact .refl
  · fail "mini x_check_fractions"
    first | done | rfl

/-! the law's own fractions -/
def P_law_low := P_fraction
noncomputable def G_law_low : Gam := gamL [] []
theorem N_law_low : c_law_low.N = (["top", "bottom", "one", "other"] : List Str) := rfl
noncomputable def d_law_low : List D → Hm → Res D := denT G_law_low c_law_low.N 2 b_law_low (TR P_law_low)
theorem sp_law_low {ds : List D} {h : Hm} (hl : ds.length = 2) (w : wpB G_law_low b_law_low (startD c_law_low.N ds) h (PoT (TR P_law_low) ds h)) : ∃ r h2, d_law_low ds h = .ok r h2 ∧ (TR P_law_low) ds h r h2 := denT_ok hl w
theorem ub_law_low_5 {Γ : Gam} {σ : Sg} {h : Hm} {P : Po} : wpB Γ b_law_low_5 σ h P = wpB Γ (.cons (.par 2 3 (.v 3) (.op2 .mod (.bi .int (.cons (.v 2) .nil)) (.v 3))) .nil) σ h P := rfl
theorem ub_law_low_4 {Γ : Gam} {σ : Sg} {h : Hm} {P : Po} : wpB Γ b_law_low_4 σ h P = wpB Γ (.cons (.ret (.tup (.cons (.op2 .fdiv (.v 0) (.v 2)) (.cons (.op2 .fdiv (.v 1) (.v 2)) .nil)))) .nil) σ h P := rfl
theorem ub_law_low_3 {Γ : Gam} {σ : Sg} {h : Hm} {P : Po} : wpB Γ b_law_low_3 σ h P = wpB Γ (.cons (.set 2 (.ifx (.cmp .gt (.v 1) (.int 0)) (.v 2) (.neg (.v 2)))) b_law_low_4) σ h P := rfl
theorem ub_law_low_2 {Γ : Gam} {σ : Sg} {h : Hm} {P : Po} : wpB Γ b_law_low_2 σ h P = wpB Γ (.cons (.while_ (.cmp .gt (.v 3) (.int 0)) b_law_low_5) b_law_low_3) σ h P := rfl
theorem ub_law_low {Γ : Gam} {σ : Sg} {h : Hm} {P : Po} : wpB Γ b_law_low σ h P = wpB Γ (.cons (.par 2 3 (.bi .abs (.cons (.v 0) .nil)) (.bi .abs (.cons (.v 1) .nil))) b_law_low_2) σ h P := rfl
local macro_rules | `(tactic| fail "mini u_law_low") => `(tactic| simp only [N_law_low, opn_tup, opn_lst, opn_int, opn_str, opn_bl, opn_non, eq_self, ub_law_low_5, ub_law_low_4, ub_law_low_3, ub_law_low_2, ub_law_low])
local macro_rules | `(tactic| fail "mini x_law_low") => `(tactic| repeat (first | fail "mini fw" | fail "mini u_law_low" | fail "mini fxx"))
theorem e_law_low {t b : Int} {h : Hm} (ho : okDen b = true) : d_law_low [.int t, .int b] h = .ok (fr (Rat.divInt t b)) h := by
  refine den_TR rfl (fun v' q => tb_uniq q ⟨t, b, rfl, ho, rfl⟩) ⟨t, b, rfl, ho, rfl⟩ ?_
  unfold okDen at ho
  rw [Bool.and_eq_true, decide_eq_true_eq, decide_eq_true_eq] at ho
  obtain ⟨f1, f2⟩ := fdiv_ok (t := t) ho.1 ho.2
  fail "mini x_law_low"
  rw [abs_if, abs_if]
  refine L_while (m := b.natAbs) (fun m σ h1 => ∃ x y : Int, σ = [some (.int t), some (.int b), some (.int x), some (.int y)] ∧ h1 = h ∧ 0 ≤ x ∧ 0 ≤ y ∧ y.toNat = m ∧ Int.gcd x y = Int.gcd b t) ⟨t.natAbs, b.natAbs, rfl, rfl, by omega, by omega, by omega, gcd_abs t b⟩ ?_
  rintro m σ h1 ⟨x, y, rfl, rfl, hx, hy, rfl, hg⟩
  fail "mini x_law_low"
  by_cases c : 0 < y
  · rw [decide_eq_true c]
    refine And.intro (fun _ => ?_) (fun z => by cases z)
    fail "mini x_law_low"
    refine ⟨(x % y).toNat, ?_, y, x % y, rfl, trivial, hy, Int.emod_nonneg _ (by omega), rfl, by rw [gcd_step, hg]⟩
    have := Int.emod_lt_of_pos x c
    omega
  · rw [decide_eq_false c]
    refine And.intro (fun z => by cases z) (fun _ => ?_)
    fail "mini x_law_low"
    have e : y = 0 := by omega
    subst e
    have ex : x = (Int.gcd b t : Int) := by
      rw [← hg, Int.gcd_zero_right]
      omega
    by_cases c : 0 < b
    · rw [decide_eq_true c]
      fail "mini x_law_low"
      rw [ex, f1]
      fail "mini x_law_low"
      rw [(low_pos c).1, (low_pos c).2]
      exact .refl
    · rw [decide_eq_false c]
      fail "mini x_law_low"
      rw [ex, f2]
      fail "mini x_law_low"
      rw [(low_neg (by omega)).1, (low_neg (by omega)).2]
      exact .refl
def P_law_plus := P_plus
def P_law_minus := P_minus
def P_law_times := P_times
def P_law_below := P_below
noncomputable def G_law_plus : Gam := gamL [(n_law_low, d_law_low)] []
theorem cg_law_plus_law_low {ds : List D} {h : Hm} : callG G_law_plus n_law_low ds h = d_law_low ds h := rfl
theorem N_law_plus : c_law_plus.N = (["one", "other"] : List Str) := rfl
noncomputable def d_law_plus : List D → Hm → Res D := denT G_law_plus c_law_plus.N 2 b_law_plus (TR P_law_plus)
theorem sp_law_plus {ds : List D} {h : Hm} (hl : ds.length = 2) (w : wpB G_law_plus b_law_plus (startD c_law_plus.N ds) h (PoT (TR P_law_plus) ds h)) : ∃ r h2, d_law_plus ds h = .ok r h2 ∧ (TR P_law_plus) ds h r h2 := denT_ok hl w
theorem ub_law_plus {Γ : Gam} {σ : Sg} {h : Hm} {P : Po} : wpB Γ b_law_plus σ h P = wpB Γ (.cons (.ret (.call n_law_low (.cons (.op2 .add (.op2 .mul (.ix (.v 0) (.int 0)) (.ix (.v 1) (.int 1))) (.op2 .mul (.ix (.v 1) (.int 0)) (.ix (.v 0) (.int 1)))) (.cons (.op2 .mul (.ix (.v 0) (.int 1)) (.ix (.v 1) (.int 1))) .nil)))) .nil) σ h P := rfl
local macro_rules | `(tactic| fail "mini u_law_plus") => `(tactic| simp only [N_law_plus, cg_law_plus_law_low, e_law_low, opn_tup, opn_lst, opn_int, opn_str, opn_bl, opn_non, eq_self, ub_law_plus])
local macro_rules | `(tactic| fail "mini x_law_plus") => `(tactic| repeat (first | fail "mini fw" | fail "mini u_law_plus" | fail "mini fxx"))
noncomputable def G_law_minus : Gam := gamL [(n_law_plus, d_law_plus)] []
theorem cg_law_minus_law_plus {ds : List D} {h : Hm} : callG G_law_minus n_law_plus ds h = d_law_plus ds h := rfl
theorem N_law_minus : c_law_minus.N = (["one", "other"] : List Str) := rfl
noncomputable def d_law_minus : List D → Hm → Res D := denT G_law_minus c_law_minus.N 2 b_law_minus (TR P_law_minus)
theorem sp_law_minus {ds : List D} {h : Hm} (hl : ds.length = 2) (w : wpB G_law_minus b_law_minus (startD c_law_minus.N ds) h (PoT (TR P_law_minus) ds h)) : ∃ r h2, d_law_minus ds h = .ok r h2 ∧ (TR P_law_minus) ds h r h2 := denT_ok hl w
theorem ub_law_minus {Γ : Gam} {σ : Sg} {h : Hm} {P : Po} : wpB Γ b_law_minus σ h P = wpB Γ (.cons (.ret (.call n_law_plus (.cons (.v 0) (.cons (.tup (.cons (.neg (.ix (.v 1) (.int 0))) (.cons (.ix (.v 1) (.int 1)) .nil))) .nil)))) .nil) σ h P := rfl
local macro_rules | `(tactic| fail "mini u_law_minus") => `(tactic| simp only [N_law_minus, cg_law_minus_law_plus, opn_tup, opn_lst, opn_int, opn_str, opn_bl, opn_non, eq_self, ub_law_minus])
local macro_rules | `(tactic| fail "mini x_law_minus") => `(tactic| repeat (first | fail "mini fw" | fail "mini u_law_minus" | fail "mini fxx"))
noncomputable def G_law_times : Gam := gamL [(n_law_low, d_law_low)] []
theorem cg_law_times_law_low {ds : List D} {h : Hm} : callG G_law_times n_law_low ds h = d_law_low ds h := rfl
theorem N_law_times : c_law_times.N = (["one", "other"] : List Str) := rfl
noncomputable def d_law_times : List D → Hm → Res D := denT G_law_times c_law_times.N 2 b_law_times (TR P_law_times)
theorem sp_law_times {ds : List D} {h : Hm} (hl : ds.length = 2) (w : wpB G_law_times b_law_times (startD c_law_times.N ds) h (PoT (TR P_law_times) ds h)) : ∃ r h2, d_law_times ds h = .ok r h2 ∧ (TR P_law_times) ds h r h2 := denT_ok hl w
theorem ub_law_times {Γ : Gam} {σ : Sg} {h : Hm} {P : Po} : wpB Γ b_law_times σ h P = wpB Γ (.cons (.ret (.call n_law_low (.cons (.op2 .mul (.ix (.v 0) (.int 0)) (.ix (.v 1) (.int 0))) (.cons (.op2 .mul (.ix (.v 0) (.int 1)) (.ix (.v 1) (.int 1))) .nil)))) .nil) σ h P := rfl
local macro_rules | `(tactic| fail "mini u_law_times") => `(tactic| simp only [N_law_times, cg_law_times_law_low, e_law_low, opn_tup, opn_lst, opn_int, opn_str, opn_bl, opn_non, eq_self, ub_law_times])
local macro_rules | `(tactic| fail "mini x_law_times") => `(tactic| repeat (first | fail "mini fw" | fail "mini u_law_times" | fail "mini fxx"))
noncomputable def G_law_below : Gam := gamL [] []
theorem N_law_below : c_law_below.N = (["one", "other"] : List Str) := rfl
noncomputable def d_law_below : List D → Hm → Res D := denT G_law_below c_law_below.N 2 b_law_below (TR P_law_below)
theorem sp_law_below {ds : List D} {h : Hm} (hl : ds.length = 2) (w : wpB G_law_below b_law_below (startD c_law_below.N ds) h (PoT (TR P_law_below) ds h)) : ∃ r h2, d_law_below ds h = .ok r h2 ∧ (TR P_law_below) ds h r h2 := denT_ok hl w
theorem ub_law_below {Γ : Gam} {σ : Sg} {h : Hm} {P : Po} : wpB Γ b_law_below σ h P = wpB Γ (.cons (.ret (.cmp .lt (.op2 .mul (.ix (.v 0) (.int 0)) (.ix (.v 1) (.int 1))) (.op2 .mul (.ix (.v 1) (.int 0)) (.ix (.v 0) (.int 1))))) .nil) σ h P := rfl
local macro_rules | `(tactic| fail "mini u_law_below") => `(tactic| simp only [N_law_below, opn_tup, opn_lst, opn_int, opn_str, opn_bl, opn_non, eq_self, ub_law_below])
local macro_rules | `(tactic| fail "mini x_law_below") => `(tactic| repeat (first | fail "mini fw" | fail "mini u_law_below" | fail "mini fxx"))
section
variable {p q : Rat} {h : Hm}
theorem e_law_plus (h1 : BD p) (h2 : BD q) : d_law_plus [fr p, fr q] h = .ok (fr (p + q)) h := by
  have t : P_plus [fr p, fr q] (fr (p + q)) := ⟨p, q, rfl, h1, h2, trivial, rfl⟩
  refine den_TR rfl (fun v' z => bin_uniq z t) t ?_
  rw [fr_eq p, fr_eq q]
  fail "mini x_law_plus"
  rw [mND h1 h2, mND h2 h1, mDD h1 h2]
  fail "mini x_law_plus"
  rw [e_law_low (dDD h1 h2), add_eq]
  exact .refl
theorem e_law_minus (h1 : BD p) (h2 : BD q) : d_law_minus [fr p, fr q] h = .ok (fr (p - q)) h := by
  have t : P_minus [fr p, fr q] (fr (p - q)) := ⟨p, q, rfl, h1, h2, trivial, rfl⟩
  refine den_TR rfl (fun v' z => bin_uniq z t) t ?_
  have e : D.tup [.int (-q.num), .int q.den] = fr (-q) := by rw [fr_eq, Rat.neg_num, Rat.neg_den]
  have h3 : BD (-q) := bd_neg h2
  rw [fr_eq q]
  fail "mini x_law_minus"
  rw [e, e_law_plus h1 h3, ← Rat.sub_eq_add_neg]
  exact .refl
theorem e_law_times (h1 : BD p) (h2 : BD q) : d_law_times [fr p, fr q] h = .ok (fr (p * q)) h := by
  have t : P_times [fr p, fr q] (fr (p * q)) := ⟨p, q, rfl, h1, h2, trivial, rfl⟩
  refine den_TR rfl (fun v' z => bin_uniq z t) t ?_
  rw [fr_eq p, fr_eq q]
  fail "mini x_law_times"
  rw [mNN h1 h2, mDD h1 h2]
  fail "mini x_law_times"
  rw [e_law_low (dDD h1 h2), mul_eq]
  exact .refl
theorem e_law_below (h1 : BD p) (h2 : BD q) : d_law_below [fr p, fr q] h = .ok (.bl (decide (p < q))) h := by
  have t : P_below [fr p, fr q] (.bl (decide (p < q))) := ⟨p, q, rfl, h1, h2, trivial, rfl⟩
  refine den_TR rfl (fun v' z => bin_uniq z t) t ?_
  rw [fr_eq p, fr_eq q]
  fail "mini x_law_below"
  rw [mND h1 h2, mND h2 h1]
  fail "mini x_law_below"
  rw [decide_eq_decide.mpr (Rat.lt_iff p q).symm]
  exact .refl
end

/-! the law's likeness -/
def kndL (v : D) : List D := match v with
  | .bl _ => [.bl true, .bl true, .bl false, .bl false, .bl false, .bl false]
  | .int _ => [.bl false, .bl true, .bl false, .bl false, .bl false, .bl false]
  | .str _ => [.bl false, .bl false, .bl true, .bl false, .bl false, .bl false]
  | .tup _ => [.bl false, .bl false, .bl false, .bl true, .bl false, .bl false]
  | .lst _ => [.bl false, .bl false, .bl false, .bl false, .bl true, .bl false]
  | .non => [.bl false, .bl false, .bl false, .bl false, .bl false, .bl true]
  | _ => []
def P_kinds : List D → D → Prop := fun ds r => ∃ (d : D), ds = [d] ∧ opn d = true ∧ r = .lst (kndL d)
noncomputable def G_law_kinds : Gam := gamL [] []
theorem N_law_kinds : c_law_kinds.N = (["thing", "found"] : List Str) := rfl
noncomputable def d_law_kinds : List D → Hm → Res D := denT G_law_kinds c_law_kinds.N 1 b_law_kinds (TR P_kinds)
theorem sp_law_kinds {ds : List D} {h : Hm} (hl : ds.length = 1) (w : wpB G_law_kinds b_law_kinds (startD c_law_kinds.N ds) h (PoT (TR P_kinds) ds h)) : ∃ r h2, d_law_kinds ds h = .ok r h2 ∧ (TR P_kinds) ds h r h2 := denT_ok hl w
theorem ub_law_kinds_2 {Γ : Gam} {σ : Sg} {h : Hm} {P : Po} : wpB Γ b_law_kinds_2 σ h P = wpB Γ (.cons (.ret (.op2 .add (.v 1) (.lst (.cons (.isi (.v 0) .tuple) (.cons (.isi (.v 0) .list) (.cons (.isN (.v 0)) .nil)))))) .nil) σ h P := rfl
theorem ub_law_kinds {Γ : Gam} {σ : Sg} {h : Hm} {P : Po} : wpB Γ b_law_kinds σ h P = wpB Γ (.cons (.set 1 (.lst (.cons (.isi (.v 0) .bool) (.cons (.isi (.v 0) .int) (.cons (.isi (.v 0) .str) .nil))))) b_law_kinds_2) σ h P := rfl
local macro_rules | `(tactic| fail "mini u_law_kinds") => `(tactic| simp only [N_law_kinds, opn_tup, opn_lst, opn_int, opn_str, opn_bl, opn_non, eq_self, ub_law_kinds_2, ub_law_kinds])
local macro_rules | `(tactic| fail "mini x_law_kinds") => `(tactic| repeat (first | fail "mini fw" | fail "mini u_law_kinds" | fail "mini fxx"))
theorem e_law_kinds {d : D} {h : Hm} (o : opn d = true) : d_law_kinds [d] h = .ok (.lst (kndL d)) h := by
  refine den_TR rfl (by rintro v' ⟨_, e, _, rfl⟩; rw [in1 e]) ⟨d, rfl, o, rfl⟩ ?_
  cases d <;> first | exact Bool.noConfusion o | (fail "mini x_law_kinds"; exact .refl)
theorem plain_bl {k : Nat} {b : Bool} : plainD k (.bl b) = true := by cases k <;> rfl
theorem knd_plain (d : D) : plainD 1 (.lst (kndL d)) = true := by
  cases d <;> exact plain_lst (by simp [kndL]) (by simp only [kndL, List.all_cons, List.all_nil, plain_bl, Bool.and_self])
theorem plain_opn {k : Nat} {d : D} (p : plainD k d = true) : opn d = true := by
  cases k <;> cases d <;> first | rfl | exact Bool.noConfusion p
theorem knd_eq {d : D} {h : Hm} : eqD (.lst (kndL d)) (.lst (kndL d)) h = .ok true h := eq_refl (k := 1) (by decide) (knd_plain d) h
def P_alike : List D → D → Prop := fun ds r => ∃ (d : D) (k : Nat), ds = [d, d] ∧ k ≤ 64 ∧ plainD k d = true ∧ r = .bl true
noncomputable def G_law_alike (dd : List D → Hm → Res D) : Gam := gamL [(n_law_kinds, d_law_kinds), (n_law_alike, dd)] []
theorem cg_law_alike_law_kinds {dd : List D → Hm → Res D} {ds : List D} {h : Hm} : callG (G_law_alike dd) n_law_kinds ds h = d_law_kinds ds h := rfl
theorem cg_law_alike_law_alike {dd : List D → Hm → Res D} {ds : List D} {h : Hm} : callG (G_law_alike dd) n_law_alike ds h = dd ds h := rfl
theorem N_law_alike : c_law_alike.N = (["found", "due", "k"] : List Str) := rfl
noncomputable def d_law_alike : Nat → List D → Hm → Res D
  | 0 => fun _ _ => .stuck
  | k + 1 => denT (G_law_alike (d_law_alike k)) c_law_alike.N 2 b_law_alike (TR P_alike)
theorem sp_law_alike {k : Nat} {ds : List D} {h : Hm} (hl : ds.length = 2) (w : wpB (G_law_alike (d_law_alike k)) b_law_alike (startD c_law_alike.N ds) h (PoT (TR P_alike) ds h)) : ∃ r h2, d_law_alike (k + 1) ds h = .ok r h2 ∧ (TR P_alike) ds h r h2 := denT_ok hl w
theorem ub_law_alike_4 {Γ : Gam} {σ : Sg} {h : Hm} {P : Po} : wpB Γ b_law_alike_4 σ h P = wpB Γ (.cons (.ret (.bl false)) .nil) σ h P := rfl
theorem ub_law_alike_5 {Γ : Gam} {σ : Sg} {h : Hm} {P : Po} : wpB Γ b_law_alike_5 σ h P = wpB Γ (.cons (.ret (.band (.cmp .eq (.bi .len (.cons (.v 0) .nil)) (.bi .len (.cons (.v 1) .nil))) (.bi .all (.cons (.comp false [("k", 2)] (.v 2) (.rng1 (.bi .len (.cons (.v 1) .nil))) .nil (.call n_law_alike (.cons (.ix (.v 0) (.v 2)) (.cons (.ix (.v 1) (.v 2)) .nil)))) .nil)))) .nil) σ h P := rfl
theorem ub_law_alike_3 {Γ : Gam} {σ : Sg} {h : Hm} {P : Po} : wpB Γ b_law_alike_3 σ h P = wpB Γ (.cons (.ret (.cmp .eq (.v 0) (.v 1))) .nil) σ h P := rfl
theorem ub_law_alike_2 {Γ : Gam} {σ : Sg} {h : Hm} {P : Po} : wpB Γ b_law_alike_2 σ h P = wpB Γ (.cons (.ife (.isiT (.v 1) [.tuple, .list]) b_law_alike_5 .nil) b_law_alike_3) σ h P := rfl
theorem ub_law_alike {Γ : Gam} {σ : Sg} {h : Hm} {P : Po} : wpB Γ b_law_alike σ h P = wpB Γ (.cons (.ife (.cmp .ne (.call n_law_kinds (.cons (.v 0) .nil)) (.call n_law_kinds (.cons (.v 1) .nil))) b_law_alike_4 .nil) b_law_alike_2) σ h P := rfl
local macro_rules | `(tactic| fail "mini u_law_alike") => `(tactic| simp only [N_law_alike, cg_law_alike_law_kinds, cg_law_alike_law_alike, e_law_kinds, opn_tup, opn_lst, opn_int, opn_str, opn_bl, opn_non, eq_self, ub_law_alike_4, ub_law_alike_5, ub_law_alike_3, ub_law_alike_2, ub_law_alike])
local macro_rules | `(tactic| fail "mini x_law_alike") => `(tactic| repeat (first | fail "mini fw" | fail "mini u_law_alike" | fail "mini fxx"))
theorem plain_at {k : Nat} {xs : List D} (p : xs.all (plainD k) = true) {i : Nat} (h : i < xs.length) : plainD k xs[i] = true := List.all_eq_true.mp p _ (List.getElem_mem h)
theorem e_law_alike : ∀ (k : Nat) (d : D) {h : Hm}, k ≤ 64 → plainD k d = true → d_law_alike (k + 1) [d, d] h = .ok (.bl true) h := by
  intro k
  induction k with
  | zero =>
    intro d h hk p
    have er := eq_refl (k := 0) (by decide) p h
    refine den_TR rfl (by rintro v' ⟨_, _, _, _, _, rfl⟩; rfl) ⟨d, 0, rfl, hk, p, rfl⟩ ?_
    cases d <;> first | exact Bool.noConfusion p | skip
    all_goals
      fail "mini x_law_alike"
      rw [knd_eq]
      fail "mini x_law_alike"
      first
        | exact .refl
        | (rw [er]; exact .refl)
        | (rw [show PyData.strOk _ = true from p]; exact .refl)
  | succ k ih =>
    intro d h hk p
    have er := eq_refl hk p h
    refine den_TR rfl (by rintro v' ⟨_, _, _, _, _, rfl⟩; rfl) ⟨d, k + 1, rfl, hk, p, rfl⟩ ?_
    cases d <;> first | exact Bool.noConfusion p | skip
    case tup xs =>
      have p : (decide (xs.length ≤ 1000) && xs.all (plainD k)) = true := p
      rw [Bool.and_eq_true, decide_eq_true_eq] at p
      fail "mini x_law_alike"
      rw [knd_eq]
      fail "mini x_law_alike"
      rw [show smallI (xs.length : Int) = true from smallI_mk (by omega) (by omega), Int.toNat_natCast, rngD_map0]
      fail "mini x_law_alike"
      rw [compR_enc (List.range xs.length) (fun i : Nat => D.int i) (fun _ => .bl true) (fun j hj t => ⟨_, rfl, ?_⟩) (by rw [List.length_range]; omega) (fun _ _ => rfl), Res.bind_ok, all_bl]
      · rw [show ((List.range xs.length).all fun _ => true) = true by simp]
        fail "mini x_law_alike"
        exact .refl
      · have hj : j < xs.length := List.mem_range.mp hj
        fail "mini x_law_alike"
        rw [atI_nat hj, List.getElem?_eq_getElem hj]
        fail "mini x_law_alike"
        exact ih _ (by omega) (plain_at p.2 hj)
    case lst xs =>
      have p : (decide (xs.length ≤ 1000) && xs.all (plainD k)) = true := p
      rw [Bool.and_eq_true, decide_eq_true_eq] at p
      fail "mini x_law_alike"
      rw [knd_eq]
      fail "mini x_law_alike"
      rw [show smallI (xs.length : Int) = true from smallI_mk (by omega) (by omega), Int.toNat_natCast, rngD_map0]
      fail "mini x_law_alike"
      rw [compR_enc (List.range xs.length) (fun i : Nat => D.int i) (fun _ => .bl true) (fun j hj t => ⟨_, rfl, ?_⟩) (by rw [List.length_range]; omega) (fun _ _ => rfl), Res.bind_ok, all_bl]
      · rw [show ((List.range xs.length).all fun _ => true) = true by simp]
        fail "mini x_law_alike"
        exact .refl
      · have hj : j < xs.length := List.mem_range.mp hj
        fail "mini x_law_alike"
        rw [atI_nat hj, List.getElem?_eq_getElem hj]
        fail "mini x_law_alike"
        exact ih _ (by omega) (plain_at p.2 hj)
    all_goals
      fail "mini x_law_alike"
      rw [knd_eq]
      fail "mini x_law_alike"
      first
        | exact .refl
        | (rw [er]; exact .refl)
        | (rw [show PyData.strOk _ = true from p]; exact .refl)

/-! numbers drawn -/
theorem fr_int (i : Int) : D.tup [.int i, .int 1] = fr (Rat.divInt i 1) := by
  rw [fr_eq, Rat.num_divInt, Rat.den_divInt]
  simp
theorem small_fr {t b : Int} {n : Nat} (h0 : 0 < b) (hb : b < 2 ^ n) (h1 : -(2 ^ n) < t) (h2 : t < 2 ^ n) (n0 : 0 < n) (n1 : n ≤ 9000) : bd n (Rat.divInt t b) ∧ okDen b = true := by
  have e : ((2 ^ n : Nat) : Int) = 2 ^ n := by simp
  refine ⟨divInt_bd (by omega) (by omega) (by omega), okDen_bd (n := n) (by omega) (by omega) n0 n1⟩
def T_num (n : Nat) : Tell := fun ds h r h' => ∀ (b : Br) (t : Hm), ds = [.ref 1] → h = hb b t → b.ok → ∃ (b' : Br) (q : Rat), r = fr q ∧ h' = hb b' t ∧ b'.ok ∧ bd n q
def EndQ (n : Nat) (t : Hm) (Q : Po) : Prop := ∀ (b : Br) (q : Rat), b.ok → bd n q → Q.rt (fr q) (hb b t)
theorem num_end {n : Nat} {b : Br} {t : Hm} : EndQ n t (PoT (T_num n) [.ref 1] (hb b t)) := by
  intro b1 q o1 bq
  refine po_rt ?_
  intro b2 t2 _ e2 _
  obtain ⟨rfl, rfl⟩ := hb_inj e2
  exact ⟨b1, q, rfl, rfl, o1, bq⟩
def T_number : Tell := T_num 21
noncomputable def G_law_number : Gam := gamL [(n_law_drop, d_law_drop), (n_law_low, d_law_low)] []
theorem cg_law_number_law_drop {ds : List D} {h : Hm} : callG G_law_number n_law_drop ds h = d_law_drop ds h := rfl
theorem cg_law_number_law_low {ds : List D} {h : Hm} : callG G_law_number n_law_low ds h = d_law_low ds h := rfl
theorem N_law_number : c_law_number.N = (["spring", "way"] : List Str) := rfl
noncomputable def d_law_number : List D → Hm → Res D := denT G_law_number c_law_number.N 1 b_law_number T_number
theorem sp_law_number {ds : List D} {h : Hm} (hl : ds.length = 1) (w : wpB G_law_number b_law_number (startD c_law_number.N ds) h (PoT T_number ds h)) : ∃ r h2, d_law_number ds h = .ok r h2 ∧ T_number ds h r h2 := denT_ok hl w
theorem ub_law_number_6 {Γ : Gam} {σ : Sg} {h : Hm} {P : Po} : wpB Γ b_law_number_6 σ h P = wpB Γ (.cons (.ret (.tup (.cons (.op2 .sub (.call n_law_drop (.cons (.v 0) (.cons (.int 2001) .nil))) (.int 1000)) (.cons (.int 1) .nil)))) .nil) σ h P := rfl
theorem ub_law_number_7 {Γ : Gam} {σ : Sg} {h : Hm} {P : Po} : wpB Γ b_law_number_7 σ h P = wpB Γ (.cons (.ret (.call n_law_low (.cons (.op2 .sub (.call n_law_drop (.cons (.v 0) (.cons (.int 2000001) .nil))) (.int 1000000)) (.cons (.ix (.lst (.cons (.int 100) (.cons (.int 1000) (.cons (.int 8) (.cons (.int 20) .nil))))) (.call n_law_drop (.cons (.v 0) (.cons (.int 4) .nil)))) .nil)))) .nil) σ h P := rfl
theorem ub_law_number_8 {Γ : Gam} {σ : Sg} {h : Hm} {P : Po} : wpB Γ b_law_number_8 σ h P = wpB Γ (.cons (.ret (.call n_law_low (.cons (.op2 .sub (.call n_law_drop (.cons (.v 0) (.cons (.int 41) .nil))) (.int 20)) (.cons (.op2 .add (.int 1) (.call n_law_drop (.cons (.v 0) (.cons (.int 12) .nil)))) .nil)))) .nil) σ h P := rfl
theorem ub_law_number_5 {Γ : Gam} {σ : Sg} {h : Hm} {P : Po} : wpB Γ b_law_number_5 σ h P = wpB Γ (.cons (.ret (.call n_law_low (.cons (.op2 .sub (.call n_law_drop (.cons (.v 0) (.cons (.int 2000001) .nil))) (.int 1000000)) (.cons (.op2 .add (.int 1) (.call n_law_drop (.cons (.v 0) (.cons (.int 1000) .nil)))) .nil)))) .nil) σ h P := rfl
theorem ub_law_number_4 {Γ : Gam} {σ : Sg} {h : Hm} {P : Po} : wpB Γ b_law_number_4 σ h P = wpB Γ (.cons (.ife (.cmp .lt (.v 1) (.int 5)) b_law_number_8 .nil) b_law_number_5) σ h P := rfl
theorem ub_law_number_3 {Γ : Gam} {σ : Sg} {h : Hm} {P : Po} : wpB Γ b_law_number_3 σ h P = wpB Γ (.cons (.ife (.cmp .lt (.v 1) (.int 3)) b_law_number_7 .nil) b_law_number_4) σ h P := rfl
theorem ub_law_number_2 {Γ : Gam} {σ : Sg} {h : Hm} {P : Po} : wpB Γ b_law_number_2 σ h P = wpB Γ (.cons (.ife (.cmp .eq (.v 1) (.int 0)) b_law_number_6 .nil) b_law_number_3) σ h P := rfl
theorem ub_law_number {Γ : Gam} {σ : Sg} {h : Hm} {P : Po} : wpB Γ b_law_number σ h P = wpB Γ (.cons (.set 1 (.call n_law_drop (.cons (.v 0) (.cons (.int 6) .nil)))) b_law_number_2) σ h P := rfl
local macro_rules | `(tactic| fail "mini u_law_number") => `(tactic| simp only [N_law_number, cg_law_number_law_drop, cg_law_number_law_low, e_law_low, opn_tup, opn_lst, opn_int, opn_str, opn_bl, opn_non, eq_self, ub_law_number_6, ub_law_number_7, ub_law_number_8, ub_law_number_5, ub_law_number_4, ub_law_number_3, ub_law_number_2, ub_law_number])
local macro_rules | `(tactic| fail "mini x_law_number") => `(tactic| repeat (first | fail "mini fw" | fail "mini u_law_number" | fail "mini fxx"))
theorem s_number {b : Br} {t : Hm} (o : b.ok) : ∃ (q : Rat) (b' : Br), d_law_number [.ref 1] (hb b t) = .ok (fr q) (hb b' t) ∧ b'.ok ∧ bd 21 q := by
  have w : wpB G_law_number b_law_number (startD c_law_number.N [.ref 1]) (hb b t) (PoT T_number [.ref 1] (hb b t)) := by
    have fin : EndQ 21 t (PoT T_number [.ref 1] (hb b t)) := num_end
    fail "mini x_law_number"
    obtain ⟨w, b1, e1, o1, hw⟩ := n_drop (t := t) 6 o (by omega) (by omega)
    rw [e1]
    fail "mini x_law_number"
    by_cases c0 : (w : Int) = 0
    · rw [decide_eq_true c0]
      fail "mini x_law_number"
      obtain ⟨n, b2, e2, o2, hn⟩ := n_drop (t := t) 2001 o1 (by omega) (by omega)
      rw [e2]
      fail "mini x_law_number"
      rw [fr_int]
      exact fin b2 _ o2 (small_fr (by decide) (by decide) (by omega) (by omega) (by decide) (by decide)).1
    · rw [decide_eq_false c0]
      fail "mini x_law_number"
      by_cases c1 : (w : Int) < 3
      · rw [decide_eq_true c1]
        fail "mini x_law_number"
        obtain ⟨n, b2, e2, o2, hn⟩ := n_drop (t := t) 2000001 o1 (by omega) (by omega)
        rw [e2]
        fail "mini x_law_number"
        obtain ⟨k, b3, e3, o3, hk⟩ := n_drop (t := t) 4 o2 (by omega) (by omega)
        rw [e3]
        fail "mini x_law_number"
        obtain ⟨d, ed, d0, d1⟩ : ∃ d : Int, atI [D.int 100, D.int 1000, D.int 8, D.int 20] (k : Int) = some (.int d) ∧ 0 < d ∧ d ≤ 1000 := by
          obtain rfl | rfl | rfl | rfl : k = 0 ∨ k = 1 ∨ k = 2 ∨ k = 3 := by omega
          · exact ⟨100, at0 _ _, by decide, by decide⟩
          · exact ⟨1000, at1 _ _ _, by decide, by decide⟩
          · exact ⟨8, at2 _ _ _ _, by decide, by decide⟩
          · exact ⟨20, at3 _ _ _ _ _, by decide, by decide⟩
        rw [ed]
        fail "mini x_law_number"
        obtain ⟨z1, z2⟩ := small_fr (t := (n : Int) - 1000000) (b := d) (n := 21) d0 (by omega) (by omega) (by omega) (by decide) (by decide)
        rw [e_law_low z2]
        fail "mini x_law_number"
        exact fin b3 _ o3 z1
      · rw [decide_eq_false c1]
        fail "mini x_law_number"
        by_cases c2 : (w : Int) < 5
        · rw [decide_eq_true c2]
          fail "mini x_law_number"
          obtain ⟨n, b2, e2, o2, hn⟩ := n_drop (t := t) 41 o1 (by omega) (by omega)
          rw [e2]
          fail "mini x_law_number"
          obtain ⟨k, b3, e3, o3, hk⟩ := n_drop (t := t) 12 o2 (by omega) (by omega)
          rw [e3]
          fail "mini x_law_number"
          obtain ⟨z1, z2⟩ := small_fr (t := (n : Int) - 20) (b := 1 + k) (n := 21) (by omega) (by omega) (by omega) (by omega) (by decide) (by decide)
          rw [e_law_low z2]
          fail "mini x_law_number"
          exact fin b3 _ o3 z1
        · rw [decide_eq_false c2]
          fail "mini x_law_number"
          obtain ⟨n, b2, e2, o2, hn⟩ := n_drop (t := t) 2000001 o1 (by omega) (by omega)
          rw [e2]
          fail "mini x_law_number"
          obtain ⟨k, b3, e3, o3, hk⟩ := n_drop (t := t) 1000 o2 (by omega) (by omega)
          rw [e3]
          fail "mini x_law_number"
          obtain ⟨z1, z2⟩ := small_fr (t := (n : Int) - 1000000) (b := 1 + k) (n := 21) (by omega) (by omega) (by omega) (by omega) (by decide) (by decide)
          rw [e_law_low z2]
          fail "mini x_law_number"
          exact fin b3 _ o3 z1
  obtain ⟨r, h2, e, T⟩ := sp_law_number rfl w
  obtain ⟨b', q, t1, t2, t3, t4⟩ := T b t rfl rfl o
  exact ⟨q, b', by rw [e, t1, t2], t3, t4⟩

/-! how many digits tell a bottom -/
def IsP (b p : Nat) : Prop := b ∣ 10 ^ p ∧ ∀ j, j < p → ¬ b ∣ 10 ^ j
theorem IsP.uniq {b p p' : Nat} (a : IsP b p) (a' : IsP b p') : p = p' := by
  rcases Nat.lt_trichotomy p p' with h | h | h
  · exact absurd a.1 (a'.2 p h)
  · exact h
  · exact absurd a'.1 (a.2 p' h)
def T_places : Tell := fun ds h r h' => ∀ b : Nat, ds = [.int (b : Int)] → 0 < b → b < 2 ^ 400 → h' = h ∧ ((∃ p : Nat, r = .int (p : Int) ∧ IsP b p) ∨ (r = .non ∧ ∀ j, ¬ b ∣ 10 ^ j))
noncomputable def G_places_of : Gam := gamL [] []
theorem N_places_of : c_places_of.N = (["bottom", "places", "left", "prime"] : List Str) := rfl
noncomputable def d_places_of : List D → Hm → Res D := denT G_places_of c_places_of.N 1 b_places_of T_places
theorem sp_places_of {ds : List D} {h : Hm} (hl : ds.length = 1) (w : wpB G_places_of b_places_of (startD c_places_of.N ds) h (PoT T_places ds h)) : ∃ r h2, d_places_of ds h = .ok r h2 ∧ T_places ds h r h2 := denT_ok hl w
theorem ub_places_of_8 {Γ : Gam} {σ : Sg} {h : Hm} {P : Po} : wpB Γ b_places_of_8 σ h P = wpB Γ (.cons (.set 2 (.op2 .fdiv (.v 2) (.v 3))) .nil) σ h P := rfl
theorem ub_places_of_7 {Γ : Gam} {σ : Sg} {h : Hm} {P : Po} : wpB Γ b_places_of_7 σ h P = wpB Γ (.cons (.ife (.cmp .eq (.op2 .mod (.v 2) (.v 3)) (.int 0)) b_places_of_8 .nil) .nil) σ h P := rfl
theorem ub_places_of_6 {Γ : Gam} {σ : Sg} {h : Hm} {P : Po} : wpB Γ b_places_of_6 σ h P = wpB Γ (.cons (.augI 1 (.int 1)) .nil) σ h P := rfl
theorem ub_places_of_5 {Γ : Gam} {σ : Sg} {h : Hm} {P : Po} : wpB Γ b_places_of_5 σ h P = wpB Γ (.cons (.for_ (.v 3) (.ex (.tup (.cons (.int 2) (.cons (.int 5) .nil)))) b_places_of_7) b_places_of_6) σ h P := rfl
theorem ub_places_of_4 {Γ : Gam} {σ : Sg} {h : Hm} {P : Po} : wpB Γ b_places_of_4 σ h P = wpB Γ (.cons (.ret (.ifx (.cmp .eq (.v 2) (.int 1)) (.v 1) .non)) .nil) σ h P := rfl
theorem ub_places_of_3 {Γ : Gam} {σ : Sg} {h : Hm} {P : Po} : wpB Γ b_places_of_3 σ h P = wpB Γ (.cons (.while_ (.band (.cmp .gt (.v 2) (.int 1)) (.bor (.cmp .eq (.op2 .mod (.v 2) (.int 2)) (.int 0)) (.cmp .eq (.op2 .mod (.v 2) (.int 5)) (.int 0)))) b_places_of_5) b_places_of_4) σ h P := rfl
theorem ub_places_of_2 {Γ : Gam} {σ : Sg} {h : Hm} {P : Po} : wpB Γ b_places_of_2 σ h P = wpB Γ (.cons (.set 2 (.v 0)) b_places_of_3) σ h P := rfl
theorem ub_places_of {Γ : Gam} {σ : Sg} {h : Hm} {P : Po} : wpB Γ b_places_of σ h P = wpB Γ (.cons (.set 1 (.int 0)) b_places_of_2) σ h P := rfl
local macro_rules | `(tactic| fail "mini u_places_of") => `(tactic| simp only [N_places_of, opn_tup, opn_lst, opn_int, opn_str, opn_bl, opn_non, eq_self, ub_places_of_8, ub_places_of_7, ub_places_of_6, ub_places_of_5, ub_places_of_4, ub_places_of_3, ub_places_of_2, ub_places_of])
local macro_rules | `(tactic| fail "mini x_places_of") => `(tactic| repeat (first | fail "mini fw" | fail "mini u_places_of" | fail "mini fxx"))
theorem fdiv_nat (l c : Nat) : (l : Int).fdiv (c : Int) = ((l / c : Nat) : Int) := by
  rw [Int.fdiv_eq_ediv_of_nonneg _ (by omega)]
  rfl
theorem mod_nat (l c : Nat) : (l : Int) % (c : Int) = ((l % c : Nat) : Int) := rfl
theorem pl_in {l c : Nat} {h : Hm} {x0 x1 : Option D} {P : Po} (hc : c = 2 ∨ c = 5) (q : P.nx [x0, x1, some (.int ((if l % c = 0 then l / c else l : Nat) : Int)), some (.int (c : Int))] h) :
    wpB G_places_of b_places_of_7 [x0, x1, some (.int (l : Int)), some (.int (c : Int))] h P := by
  have d0 : divOk (c : Int) = true := by rcases hc with rfl | rfl <;> decide
  fail "mini x_places_of"
  have hp : (0 : Int) < c := by omega
  rw [decide_eq_true hp]
  fail "mini x_places_of"
  by_cases e : l % c = 0
  · rw [if_pos e] at q
    rw [decide_eq_true (show (l : Int) % (c : Int) = 0 by rw [mod_nat, e]; rfl)]
    fail "mini x_places_of"
    rw [d0]
    fail "mini x_places_of"
    rw [fdiv_nat]
    exact q
  · rw [if_neg e] at q
    rw [decide_eq_false (show ¬ (l : Int) % (c : Int) = 0 by rw [mod_nat]; omega)]
    fail "mini x_places_of"
    exact q
theorem e_places {b : Nat} (h0 : 0 < b) (h1 : b < 2 ^ 400) (h : Hm) : ∃ r, d_places_of [.int (b : Int)] h = .ok r h ∧ ((∃ p : Nat, r = .int (p : Int) ∧ IsP b p) ∨ (r = .non ∧ ∀ j, ¬ b ∣ 10 ^ j)) := by
  have w : wpB G_places_of b_places_of (startD c_places_of.N [.int (b : Int)]) h (PoT T_places [.int (b : Int)] h) := by
    have fin : ∀ r, ((∃ p : Nat, r = .int (p : Int) ∧ IsP b p) ∨ (r = .non ∧ ∀ j, ¬ b ∣ 10 ^ j)) → (PoT T_places [.int (b : Int)] h).rt r h := fun r hr => by
      refine po_rt ?_
      intro b2 e2 _ _
      have e2 := in1 e2
      injection e2 with e2
      have e2 : b = b2 := Int.ofNat.inj e2
      subst e2
      exact ⟨rfl, hr⟩
    fail "mini x_places_of"
    refine L_while (m := b) (fun m σ h2 => ∃ (p : Nat) (x3 : Option D), σ = [some (.int (b : Int)), some (.int (p : Int)), some (.int (m : Int)), x3] ∧ h2 = h ∧ PlInv b p m) ⟨0, _, rfl, rfl, pl_0 h0⟩ ?_
    rintro m σ h2 ⟨p, x3, rfl, rfl, i⟩
    fail "mini x_places_of"
    have ec : (decide ((1 : Int) < m) && (decide ((m : Int) % 2 = 0) || decide ((m : Int) % 5 = 0))) = decide (1 < m ∧ (m % 2 = 0 ∨ m % 5 = 0)) := by
      rw [← Bool.decide_or, ← Bool.decide_and]
      exact decide_eq_decide.mpr (by omega)
    rw [ec]
    by_cases c : 1 < m ∧ (m % 2 = 0 ∨ m % 5 = 0)
    · rw [decide_eq_true c]
      refine And.intro (fun _ => ?_) (fun z => by cases z)
      generalize hB : b_places_of_7 = B
      have st : ∀ {l c : Nat} {x0 x1 : Option D} {P : Po}, c = 2 ∨ c = 5 → P.nx [x0, x1, some (.int ((if l % c = 0 then l / c else l : Nat) : Int)), some (.int (c : Int))] h2 → wpB G_places_of B [x0, x1, some (.int (l : Int)), some (.int (c : Int))] h2 P := fun hc q => by rw [← hB]; exact pl_in hc q
      rw [k_for, loop_v]
      simp only [List.set_cons_zero, List.set_cons_succ]
      refine st (c := 2) (.inl rfl) ?_
      rw [lp_nx, loop_v]
      simp only [List.set_cons_zero, List.set_cons_succ]
      refine st (c := 5) (.inr rfl) ?_
      rw [lp_nx, loop_nil, seq_nx]
      fail "mini x_places_of"
      have pz := pass_lt i.pos c.2
      exact ⟨pass m, by omega, p + 1, _, rfl, by first | trivial | rfl, pl_step i c.1 c.2⟩
    · rw [decide_eq_false c]
      refine And.intro (fun z => by cases z) (fun _ => ?_)
      by_cases e : m = 1
      · rw [decide_eq_true (show (m : Int) = 1 by omega)]
        fail "mini x_places_of"
        exact fin _ (.inl ⟨p, rfl, pl_one i e⟩)
      · rw [decide_eq_false (show ¬ (m : Int) = 1 by omega)]
        fail "mini x_places_of"
        have := i.pos
        exact fin _ (.inr ⟨rfl, pl_none i e (by omega) (by omega)⟩)
  obtain ⟨r, h', e, t⟩ := sp_places_of rfl w
  obtain ⟨eh, q⟩ := t b rfl h0 h1
  exact ⟨r, by rw [e, eh], q⟩

/-! texts of fractions -/
theorem IsP.two : ∀ (p b : Nat), 0 < b → IsP b p → 2 ^ p ≤ b
  | 0, b, h, _ => h
  | p + 1, b, h, i => by
    have b1 : b ≠ 1 := fun e => i.2 0 (by omega) (by rw [e]; exact Nat.one_dvd _)
    by_cases c : b % 2 = 0 ∨ b % 5 = 0
    · have q := pass_lt h c
      have z := IsP.two p (pass b) q.1 ⟨(pass_dvd c p).mp i.1, fun j hj d => i.2 (j + 1) (by omega) ((pass_dvd c j).mpr d)⟩
      rw [Nat.pow_succ]
      omega
    · exact absurd (cop_none (by omega) (by omega) _ i.1) b1
theorem IsP.few {b p n : Nat} (h : 0 < b) (i : IsP b p) (l : b < 2 ^ n) : p < n := (Nat.pow_lt_pow_iff_right (by decide)).mp (Nat.lt_of_le_of_lt (IsP.two p b h i) l)
structure QB (q : Rat) : Prop where
  n : q.num.natAbs < 2 ^ 640
  d : q.den < 2 ^ 210
def IsTx (q : Rat) (cs : List Nat) : Prop :=
  (∃ p, IsP q.den p ∧ cs = if p = 0 then sgc q.num ++ dg q.num.natAbs else sgc q.num ++ dg (q.num.natAbs / q.den) ++ [46] ++ pad p (q.num.natAbs % q.den * 10 ^ p / q.den)) ∨
    ((∀ j, ¬ q.den ∣ 10 ^ j) ∧ cs = sgc q.num ++ dg q.num.natAbs ++ [47] ++ dg q.den)
theorem IsTx.uniq {q : Rat} {a b : List Nat} (x : IsTx q a) (y : IsTx q b) : a = b := by
  rcases x with ⟨p, i, e⟩ | ⟨n, e⟩ <;> rcases y with ⟨p', i', e'⟩ | ⟨n', e'⟩
  · rw [e, e', i.uniq i']
  · exact absurd i.1 (n' p)
  · exact absurd i'.1 (n p')
  · rw [e, e']
theorem sgc_len (i : Int) : (sgc i).length ≤ 1 := by unfold sgc; split <;> simp
theorem big640 : (2 : Nat) ^ 640 ≤ 10 ^ 193 := by decide +kernel
theorem dg200 {n : Nat} (h : n < 2 ^ 640) : (dg n).length ≤ 193 := dg_len (by decide) (Nat.lt_of_lt_of_le h big640)
theorem IsTx.len {q : Rat} {a : List Nat} (b : QB q) (x : IsTx q a) : a.length ≤ 500 := by
  have s := sgc_len q.num
  have d1 := dg200 b.n
  have d2 := dg200 (n := q.den) (Nat.lt_trans b.d (Nat.pow_lt_pow_right (by decide) (by decide)))
  have d3 := dg200 (n := q.num.natAbs / q.den) (Nat.lt_of_le_of_lt (Nat.div_le_self _ _) b.n)
  rcases x with ⟨p, i, e⟩ | ⟨n, e⟩
  · have := i.few q.den_pos b.d
    rw [e]
    split
    · rw [List.length_append]; omega
    · rw [List.length_append, List.length_append, List.length_append, pad_len, List.length_singleton]; omega
  · rw [e, List.length_append, List.length_append, List.length_append, List.length_singleton]; omega
theorem add_TX {a b : List Nat} {h : Hm} (la : a.length ≤ 1000) (lb : b.length ≤ 1000) : opD .add (.str (TX a)) (.str (TX b)) h = .ok (.str (TX (a ++ b))) h := by
  show Res.guard (decide ((TX a).length + (TX b).length ≤ LIM)) (Res.ok (D.str (TX a ++ TX b)) h) = _
  rw [TX_len, TX_len, len_guard (by omega), TX_app]
theorem grd_TX {α : Type} {a b : List Nat} {r : Res α} (l : a.length + b.length ≤ 4000) : Res.guard (decide ((TX a).length + (TX b).length ≤ LIM)) r = r := by rw [TX_len, TX_len, len_guard (by omega)]
theorem dvN {n : Nat} (h0 : 0 < n) (h1 : n < 2 ^ 1000) : divOk (n : Int) = true := divOk_of (by omega) (by rw [Int.natAbs_natCast]; exact Nat.lt_trans (log_lt h1 (by decide)) (by decide))
theorem cutFrom {α : Type} (xs : List α) (n : Nat) : cutL xs (some (n : Int)) none = xs.drop n := by
  unfold cutL
  rw [show HT.sIx xs.length 0 (some (n : Int)) = min n xs.length from HT.sIx_nat _ _ _, show HT.sIx xs.length xs.length none = xs.length from rfl]
  by_cases c : n ≤ xs.length
  · rw [Nat.min_eq_left c, List.take_of_length_le (by rw [List.length_drop]; omega)]
  · rw [Nat.min_eq_right (by omega), List.drop_eq_nil_of_le (Nat.le_refl _), List.drop_eq_nil_of_le (by omega), List.take_nil]
theorem cutTo {α : Type} (xs : List α) (n : Nat) : cutL xs none (some (n : Int)) = xs.take n := by
  unfold cutL
  rw [show HT.sIx xs.length xs.length (some (n : Int)) = min n xs.length from HT.sIx_nat _ _ _, show HT.sIx xs.length 0 none = 0 from rfl, List.drop_zero, Nat.sub_zero]
  by_cases c : n ≤ xs.length
  · rw [Nat.min_eq_left c]
  · rw [Nat.min_eq_right (by omega), List.take_of_length_le (Nat.le_refl _), List.take_of_length_le (by omega)]
theorem cutMid {α : Type} (xs : List α) (n m : Nat) : cutL xs (some (n : Int)) (some (m : Int)) = (xs.drop n).take (m - n) := by
  unfold cutL
  rw [show HT.sIx xs.length 0 (some (n : Int)) = min n xs.length from HT.sIx_nat _ _ _, show HT.sIx xs.length xs.length (some (m : Int)) = min m xs.length from HT.sIx_nat _ _ _]
  by_cases c : n ≤ xs.length
  · rw [Nat.min_eq_left c]
    by_cases c2 : m ≤ xs.length
    · rw [Nat.min_eq_left c2]
    · rw [Nat.min_eq_right (by omega), List.take_of_length_le (by rw [List.length_drop]; omega), List.take_of_length_le (by rw [List.length_drop]; omega)]
  · rw [show min n xs.length = xs.length from Nat.min_eq_right (by omega), List.drop_eq_nil_of_le (Nat.le_refl _), List.drop_eq_nil_of_le (show xs.length ≤ n by omega), List.take_nil, List.take_nil]
theorem len_TX {α : Type} {a : List Nat} {r : Res α} (l : a.length ≤ 4000) : Res.guard (decide ((TX a).length ≤ LIM)) r = r := by rw [TX_len, len_guard (by omega)]
theorem sign_D {i : Int} : (if i < 0 then D.str (Str.ofString "-") else D.str (Str.ofString "")) = D.str (TX (sgc i)) := by
  unfold sgc
  split
  · rw [txt_minus]
  · rw [txt_empty]
theorem eq_non_int {i : Int} {h : Hm} : eqD .non (.int i) h = .ok false h := by
  unfold eqD
  rw [toPyH_of (d := .non) (p := .none) rfl, toPyH_of (d := .int i) (p := .int i) rfl]
  rfl
theorem str_ok {i : Int} {h : Hm} (b : i.natAbs < 2 ^ 1000) : biD Bi.str [D.int i] h = .ok (D.str (TX (sgc i ++ dg i.natAbs))) h := by
  show Res.guard (decide (i.natAbs.log2 < 1920)) (.ok (D.str (Str.ofString (toString i))) h) = _
  rw [decide_eq_true (Nat.lt_of_lt_of_le (log_lt b (by decide)) (by decide)), Res.guard_true, txt_int]
theorem str_nat {n : Nat} {h : Hm} (b : n < 2 ^ 1000) : biD Bi.str [D.int (n : Int)] h = .ok (D.str (TX (dg n))) h := by
  rw [str_ok (i := (n : Int)) (by rw [Int.natAbs_natCast]; exact b), Int.natAbs_natCast]
  unfold sgc
  rw [if_neg (by omega), List.nil_append]
def P_tx : List D → D → Prop := fun ds r => ∃ (q : Rat) (cs : List Nat), ds = [fr q] ∧ QB q ∧ IsTx q cs ∧ r = .str (TX cs)
theorem tx_uniq {ds : List D} {r r' : D} (a : P_tx ds r) (b : P_tx ds r') : r = r' := by
  obtain ⟨q, cs, rfl, _, x, rfl⟩ := a
  obtain ⟨q2, cs2, e, _, x2, rfl⟩ := b
  have e := fr_inj (in1 e)
  subst e
  rw [x.uniq x2]
noncomputable def G_fraction_text : Gam := gamL [(n_check_fractions, d_check_fractions), (n_places_of, d_places_of)] []
theorem cg_fraction_text_check_fractions {ds : List D} {h : Hm} : callG G_fraction_text n_check_fractions ds h = d_check_fractions ds h := rfl
theorem cg_fraction_text_places_of {ds : List D} {h : Hm} : callG G_fraction_text n_places_of ds h = d_places_of ds h := rfl
theorem N_fraction_text : c_fraction_text.N = (["number", "top", "bottom", "places", "power", "turn", "whole", "rest"] : List Str) := rfl
noncomputable def d_fraction_text : List D → Hm → Res D := denT G_fraction_text c_fraction_text.N 1 b_fraction_text (TR P_tx)
theorem sp_fraction_text {ds : List D} {h : Hm} (hl : ds.length = 1) (w : wpB G_fraction_text b_fraction_text (startD c_fraction_text.N ds) h (PoT (TR P_tx) ds h)) : ∃ r h2, d_fraction_text ds h = .ok r h2 ∧ (TR P_tx) ds h r h2 := denT_ok hl w
theorem ub_fraction_text_9 {Γ : Gam} {σ : Sg} {h : Hm} {P : Po} : wpB Γ b_fraction_text_9 σ h P = wpB Γ (.cons (.ret (.ifx (.cmp .eq (.v 3) (.int 0)) (.bi .str (.cons (.v 1) .nil)) (.op2 .add (.op2 .add (.bi .str (.cons (.v 1) .nil)) (.str "/")) (.bi .str (.cons (.v 2) .nil))))) .nil) σ h P := rfl
theorem ub_fraction_text_10 {Γ : Gam} {σ : Sg} {h : Hm} {P : Po} : wpB Γ b_fraction_text_10 σ h P = wpB Γ (.cons (.set 4 (.op2 .mul (.v 4) (.int 10))) .nil) σ h P := rfl
theorem ub_fraction_text_8 {Γ : Gam} {σ : Sg} {h : Hm} {P : Po} : wpB Γ b_fraction_text_8 σ h P = wpB Γ (.cons (.ret (.op2 .add (.op2 .add (.op2 .add (.ifx (.cmp .lt (.v 1) (.int 0)) (.str "-") (.str "")) (.bi .str (.cons (.v 6) .nil))) (.str ".")) (.slice (.bi .str (.cons (.op2 .add (.v 4) (.v 7)) .nil)) (.some (.int 1)) .none))) .nil) σ h P := rfl
theorem ub_fraction_text_7 {Γ : Gam} {σ : Sg} {h : Hm} {P : Po} : wpB Γ b_fraction_text_7 σ h P = wpB Γ (.cons (.par 6 7 (.op2 .fdiv (.op2 .mul (.bi .abs (.cons (.v 1) .nil)) (.op2 .fdiv (.v 4) (.v 2))) (.v 4)) (.op2 .mod (.op2 .mul (.bi .abs (.cons (.v 1) .nil)) (.op2 .fdiv (.v 4) (.v 2))) (.v 4))) b_fraction_text_8) σ h P := rfl
theorem ub_fraction_text_6 {Γ : Gam} {σ : Sg} {h : Hm} {P : Po} : wpB Γ b_fraction_text_6 σ h P = wpB Γ (.cons (.for_ (.v 5) (.rng1 (.v 3)) b_fraction_text_10) b_fraction_text_7) σ h P := rfl
theorem ub_fraction_text_5 {Γ : Gam} {σ : Sg} {h : Hm} {P : Po} : wpB Γ b_fraction_text_5 σ h P = wpB Γ (.cons (.set 4 (.int 1)) b_fraction_text_6) σ h P := rfl
theorem ub_fraction_text_4 {Γ : Gam} {σ : Sg} {h : Hm} {P : Po} : wpB Γ b_fraction_text_4 σ h P = wpB Γ (.cons (.ife (.bor (.isN (.v 3)) (.cmp .eq (.v 3) (.int 0))) b_fraction_text_9 .nil) b_fraction_text_5) σ h P := rfl
theorem ub_fraction_text_3 {Γ : Gam} {σ : Sg} {h : Hm} {P : Po} : wpB Γ b_fraction_text_3 σ h P = wpB Γ (.cons (.set 3 (.call n_places_of (.cons (.v 2) .nil))) b_fraction_text_4) σ h P := rfl
theorem ub_fraction_text_2 {Γ : Gam} {σ : Sg} {h : Hm} {P : Po} : wpB Γ b_fraction_text_2 σ h P = wpB Γ (.cons (.asg [1, 2] (.v 0)) b_fraction_text_3) σ h P := rfl
theorem ub_fraction_text {Γ : Gam} {σ : Sg} {h : Hm} {P : Po} : wpB Γ b_fraction_text σ h P = wpB Γ (.cons (.ex (.call n_check_fractions (.cons (.tup (.cons (.v 0) .nil)) .nil))) b_fraction_text_2) σ h P := rfl
local macro_rules | `(tactic| fail "mini u_fraction_text") => `(tactic| simp only [N_fraction_text, cg_fraction_text_check_fractions, cg_fraction_text_places_of, e_check_fractions, opn_tup, opn_lst, opn_int, opn_str, opn_bl, opn_non, eq_self, ub_fraction_text_9, ub_fraction_text_10, ub_fraction_text_8, ub_fraction_text_7, ub_fraction_text_6, ub_fraction_text_5, ub_fraction_text_4, ub_fraction_text_3, ub_fraction_text_2, ub_fraction_text])
local macro_rules | `(tactic| fail "mini x_fraction_text") => `(tactic| repeat (first | fail "mini fw" | fail "mini u_fraction_text" | fail "mini fxx"))
theorem sign_ifx {i : Int} : (if i < 0 then TX [45] else TX []) = TX (sgc i) := by
  unfold sgc
  split <;> rfl
theorem ten_lt {p : Nat} (h : p ≤ 210) : 10 ^ p < 2 ^ 700 := Nat.lt_of_le_of_lt (Nat.pow_le_pow_right (by decide) h) (by decide +kernel)
theorem e_fraction_text {q : Rat} {h : Hm} (b : QB q) : ∃ cs, IsTx q cs ∧ d_fraction_text [fr q] h = .ok (.str (TX cs)) h := by
  have p0 := q.den_pos
  obtain ⟨r, e, z⟩ := e_places p0 (Nat.lt_trans b.d (Nat.pow_lt_pow_right (by decide) (by decide))) h
  have d1 := dg200 b.n
  have d2 := dg200 (n := q.den) (Nat.lt_trans b.d (Nat.pow_lt_pow_right (by decide) (by decide)))
  have s := sgc_len q.num
  have bn : q.num.natAbs < 2 ^ 1000 := Nat.lt_trans b.n (Nat.pow_lt_pow_right (by decide) (by decide))
  have bd' : q.den < 2 ^ 1000 := Nat.lt_trans b.d (Nat.pow_lt_pow_right (by decide) (by decide))
  rcases z with ⟨p, rfl, i⟩ | ⟨rfl, n⟩
  · have pf := i.few p0 b.d
    refine ⟨_, .inl ⟨p, i, rfl⟩, den_TR rfl (fun v' z => tx_uniq z ⟨q, _, rfl, b, .inl ⟨p, i, rfl⟩, rfl⟩) ⟨q, _, rfl, b, .inl ⟨p, i, rfl⟩, rfl⟩ ?_⟩
    by_cases c : p = 0
    · subst c
      rw [if_pos rfl]
      fail "mini x_fraction_text"
      rw [fr_eq]
      fail "mini x_fraction_text"
      rw [e]
      fail "mini x_fraction_text"
      rw [str_ok bn]
      fail "mini x_fraction_text"
      exact .refl
    · rw [if_neg c]
      have q10 : 10 ^ p < 2 ^ 700 := ten_lt (by omega)
      have wl : q.num.natAbs * (10 ^ p / q.den) / 10 ^ p = q.num.natAbs / q.den ∧ q.num.natAbs * (10 ^ p / q.den) % 10 ^ p = q.num.natAbs % q.den * 10 ^ p / q.den := whole_of p0 i.1
      have d3 := dg200 (n := q.num.natAbs / q.den) (Nat.lt_of_le_of_lt (Nat.div_le_self _ _) b.n)
      fail "mini x_fraction_text"
      rw [fr_eq]
      fail "mini x_fraction_text"
      rw [e]
      fail "mini x_fraction_text"
      rw [decide_eq_false (show ¬ (p : Int) = 0 by omega)]
      fail "mini x_fraction_text"
      rw [show smallI (p : Int) = true from smallI_mk (by omega) (by omega)]
      refine L_for (fun k σ h2 => h2 = h ∧ ∃ x5, σ = [some (.tup [.int q.num, .int q.den]), some (.int q.num), some (.int (q.den : Int)), some (.int (p : Int)), some (.int ((10 ^ k : Nat) : Int)), x5, none, none]) ⟨rfl, _, rfl⟩ ?_ ?_
      · rintro k d σ h2 hk ⟨rfl, x5, rfl⟩
        refine ⟨_, rfl, ?_⟩
        fail "mini x_fraction_text"
        rw [mulOk_r (by decide) (by decide)]
        fail "mini x_fraction_text"
        exact ⟨by first | trivial | rfl, _, by rw [show ((10 ^ k : Nat) : Int) * 10 = ((10 ^ (k + 1) : Nat) : Int) by rw [Nat.pow_succ]; omega]⟩
      · rintro σ h2 ⟨rfl, x5, rfl⟩
        rw [rngD_length, Int.toNat_natCast]
        fail "mini x_fraction_text"
        have m1 : mulOk (q.num.natAbs : Int) ((10 ^ p / q.den : Nat) : Int) = true := mulOk_bd (n := 640) (m := 700) (by rw [Int.natAbs_natCast]; exact b.n) (by rw [Int.natAbs_natCast]; exact Nat.lt_of_le_of_lt (Nat.div_le_self _ _) q10) (by decide) (by decide) (by decide)
        rw [dvN p0 bd', abs_if, fdiv_nat, m1, dvN (Nat.pow_pos (by decide)) (Nat.lt_trans q10 (Nat.pow_lt_pow_right (by decide) (by decide))), ← Int.natCast_mul, fdiv_nat, wl.1]
        fail "mini x_fraction_text"
        have p10 : 0 < 10 ^ p := Nat.pow_pos (by decide)
        rw [dvN p0 bd', abs_if, fdiv_nat, m1, decide_eq_true (show (0 : Int) < ((10 ^ p : Nat) : Int) by omega), ← Int.natCast_mul, mod_nat, wl.2]
        fail "mini x_fraction_text"
        have rl : q.num.natAbs % q.den * 10 ^ p / q.den < 10 ^ p := Nat.div_lt_of_lt_mul (Nat.mul_lt_mul_of_pos_right (Nat.mod_lt _ p0) p10)
        have q2 : 10 ^ p + q.num.natAbs % q.den * 10 ^ p / q.den < 2 ^ 1000 := by
          have z : (2 : Nat) ^ 700 * 2 ≤ 2 ^ 1000 := by rw [← Nat.pow_succ]; exact Nat.pow_le_pow_right (by decide) (by decide)
          omega
        rw [sign_D, str_nat (Nat.lt_of_le_of_lt (Nat.div_le_self _ _) bn)]
        fail "mini x_fraction_text"
        rw [grd_TX (by omega), TX_app, txt_point]
        fail "mini x_fraction_text"
        rw [grd_TX (by rw [List.length_append, List.length_singleton]; omega), TX_app]
        fail "mini x_fraction_text"
        rw [← Int.natCast_add, str_nat q2, dg_one p _ rl]
        fail "mini x_fraction_text"
        rw [len_TX (by rw [List.length_cons, pad_len]; omega), TX_cut, show (some (1 : Int)) = some ((1 : Nat) : Int) from rfl, cutFrom]
        fail "mini x_fraction_text"
        rw [List.drop_succ_cons, List.drop_zero, grd_TX (by rw [List.length_append, List.length_append, List.length_singleton, pad_len]; omega), TX_app]
        fail "mini x_fraction_text"
        exact .refl
  · refine ⟨_, .inr ⟨n, rfl⟩, den_TR rfl (fun v' z => tx_uniq z ⟨q, _, rfl, b, .inr ⟨n, rfl⟩, rfl⟩) ⟨q, _, rfl, b, .inr ⟨n, rfl⟩, rfl⟩ ?_⟩
    fail "mini x_fraction_text"
    rw [fr_eq]
    fail "mini x_fraction_text"
    rw [e]
    fail "mini x_fraction_text"
    rw [eq_non_int]
    fail "mini x_fraction_text"
    rw [str_ok bn]
    fail "mini x_fraction_text"
    rw [txt_stroke, grd_TX (by rw [List.length_append, List.length_singleton]; omega), TX_app]
    fail "mini x_fraction_text"
    rw [str_nat bd']
    fail "mini x_fraction_text"
    rw [grd_TX (by rw [List.length_append, List.length_append, List.length_singleton]; omega), TX_app]
    fail "mini x_fraction_text"
    exact .refl

/-! the law's text: plain -/
theorem rest_zero {N d j : Nat} (c : Nat.Coprime N d) : N % d * 10 ^ j % d = 0 ↔ d ∣ 10 ^ j := by
  rw [Nat.mul_mod, Nat.mod_mod, ← Nat.mul_mod, ← Nat.dvd_iff_mod_eq_zero]
  exact ⟨fun h => (Nat.Coprime.symm c).dvd_of_dvd_mul_left h, fun h => Nat.dvd_mul_left_of_dvd h N⟩
theorem least_of (d : Nat) : ∀ n K, K < n → d ∣ 10 ^ K → ∃ p, IsP d p
  | 0, _, h, _ => absurd h (Nat.not_lt_zero _)
  | n + 1, K, h, e => by
    by_cases c : ∃ j, j < K ∧ d ∣ 10 ^ j
    · obtain ⟨j, j1, j2⟩ := c
      exact least_of d n j (by omega) j2
    · exact ⟨K, e, fun j hj z => c ⟨j, hj, z⟩⟩
theorem dig_step {d x : Nat} (hd : 0 < d) : x * 10 / d = x / d * 10 + x % d * 10 / d ∧ x % d * 10 / d < 10 := by
  refine ⟨?_, Nat.div_lt_of_lt_mul (by have := Nat.mod_lt x hd; omega)⟩
  have e : x * 10 = d * (x / d * 10) + x % d * 10 := by
    have := Nat.div_add_mod x d
    calc x * 10 = (d * (x / d) + x % d) * 10 := by rw [this]
      _ = d * (x / d * 10) + x % d * 10 := by rw [Nat.add_mul, Nat.mul_assoc]
  conv => lhs; rw [e]
  rw [Nat.mul_add_div hd]
theorem pad_step {d x j : Nat} (hd : 0 < d) : pad (j + 1) (x * 10 / d) = pad j (x / d) ++ dg (x % d * 10 / d) := by
  obtain ⟨e, l⟩ := dig_step (x := x) hd
  rw [pad_app, dg_lt l, e]
  generalize x / d = u at *
  generalize x % d * 10 / d = v at *
  congr 1
  · congr 1
    omega
  · congr 2
    omega
def P_txL := P_tx
noncomputable def G_law_text : Gam := gamL [] []
theorem N_law_text : c_law_text.N = (["number", "top", "bottom", "sign", "left", "turn", "text", "rest"] : List Str) := rfl
noncomputable def d_law_text : List D → Hm → Res D := denT G_law_text c_law_text.N 1 b_law_text (TR P_txL)
theorem sp_law_text {ds : List D} {h : Hm} (hl : ds.length = 1) (w : wpB G_law_text b_law_text (startD c_law_text.N ds) h (PoT (TR P_txL) ds h)) : ∃ r h2, d_law_text ds h = .ok r h2 ∧ (TR P_txL) ds h r h2 := denT_ok hl w
theorem ub_law_text_9 {Γ : Gam} {σ : Sg} {h : Hm} {P : Po} : wpB Γ b_law_text_9 σ h P = wpB Γ (.cons (.set 4 (.ifx (.cmp .eq (.op2 .mod (.bi .int (.cons (.v 4) .nil)) (.int 2)) (.int 0)) (.op2 .fdiv (.v 4) (.int 2)) (.ifx (.cmp .eq (.op2 .mod (.bi .int (.cons (.v 4) .nil)) (.int 5)) (.int 0)) (.op2 .fdiv (.v 4) (.int 5)) (.v 4)))) .nil) σ h P := rfl
theorem ub_law_text_10 {Γ : Gam} {σ : Sg} {h : Hm} {P : Po} : wpB Γ b_law_text_10 σ h P = wpB Γ (.cons (.ret (.op2 .add (.op2 .add (.op2 .add (.v 3) (.bi .str (.cons (.v 1) .nil))) (.str "/")) (.bi .str (.cons (.v 2) .nil)))) .nil) σ h P := rfl
theorem ub_law_text_11 {Γ : Gam} {σ : Sg} {h : Hm} {P : Po} : wpB Γ b_law_text_11 σ h P = wpB Γ (.cons (.set 6 (.op2 .add (.v 6) (.str "."))) .nil) σ h P := rfl
theorem ub_law_text_12 {Γ : Gam} {σ : Sg} {h : Hm} {P : Po} : wpB Γ b_law_text_12 σ h P = wpB Γ (.cons (.par 6 7 (.op2 .add (.v 6) (.bi .str (.cons (.op2 .fdiv (.op2 .mul (.v 7) (.int 10)) (.v 2)) .nil))) (.op2 .mod (.bi .int (.cons (.op2 .mul (.v 7) (.int 10)) .nil)) (.v 2))) .nil) σ h P := rfl
theorem ub_law_text_8 {Γ : Gam} {σ : Sg} {h : Hm} {P : Po} : wpB Γ b_law_text_8 σ h P = wpB Γ (.cons (.ret (.v 6)) .nil) σ h P := rfl
theorem ub_law_text_7 {Γ : Gam} {σ : Sg} {h : Hm} {P : Po} : wpB Γ b_law_text_7 σ h P = wpB Γ (.cons (.while_ (.cmp .gt (.v 7) (.int 0)) b_law_text_12) b_law_text_8) σ h P := rfl
theorem ub_law_text_6 {Γ : Gam} {σ : Sg} {h : Hm} {P : Po} : wpB Γ b_law_text_6 σ h P = wpB Γ (.cons (.ife (.cmp .gt (.v 7) (.int 0)) b_law_text_11 .nil) b_law_text_7) σ h P := rfl
theorem ub_law_text_5 {Γ : Gam} {σ : Sg} {h : Hm} {P : Po} : wpB Γ b_law_text_5 σ h P = wpB Γ (.cons (.par 6 7 (.op2 .add (.v 3) (.bi .str (.cons (.op2 .fdiv (.v 1) (.v 2)) .nil))) (.op2 .mod (.bi .int (.cons (.v 1) .nil)) (.v 2))) b_law_text_6) σ h P := rfl
theorem ub_law_text_4 {Γ : Gam} {σ : Sg} {h : Hm} {P : Po} : wpB Γ b_law_text_4 σ h P = wpB Γ (.cons (.ife (.cmp .gt (.v 4) (.int 1)) b_law_text_10 .nil) b_law_text_5) σ h P := rfl
theorem ub_law_text_3 {Γ : Gam} {σ : Sg} {h : Hm} {P : Po} : wpB Γ b_law_text_3 σ h P = wpB Γ (.cons (.for_ (.v 5) (.rng1 (.int 400)) b_law_text_9) b_law_text_4) σ h P := rfl
theorem ub_law_text_2 {Γ : Gam} {σ : Sg} {h : Hm} {P : Po} : wpB Γ b_law_text_2 σ h P = wpB Γ (.cons (.par 3 4 (.ix (.lst (.cons (.str "") (.cons (.str "-") .nil))) (.bi .int (.cons (.cmp .lt (.ix (.v 0) (.int 0)) (.int 0)) .nil))) (.v 2)) b_law_text_3) σ h P := rfl
theorem ub_law_text {Γ : Gam} {σ : Sg} {h : Hm} {P : Po} : wpB Γ b_law_text σ h P = wpB Γ (.cons (.par 1 2 (.bi .abs (.cons (.ix (.v 0) (.int 0)) .nil)) (.ix (.v 0) (.int 1))) b_law_text_2) σ h P := rfl
local macro_rules | `(tactic| fail "mini u_law_text") => `(tactic| simp only [N_law_text, opn_tup, opn_lst, opn_int, opn_str, opn_bl, opn_non, eq_self, ub_law_text_9, ub_law_text_10, ub_law_text_11, ub_law_text_12, ub_law_text_8, ub_law_text_7, ub_law_text_6, ub_law_text_5, ub_law_text_4, ub_law_text_3, ub_law_text_2, ub_law_text])
local macro_rules | `(tactic| fail "mini x_law_text") => `(tactic| repeat (first | fail "mini fw" | fail "mini u_law_text" | fail "mini fxx"))
theorem sign_at {i : Int} {h : Hm} : (biD .int [.bl (decide (i < 0))] h) = .ok (.int (if i < 0 then 1 else 0)) h := by
  show Res.ok (D.int (if decide (i < 0) = true then 1 else 0)) h = _
  simp only [decide_eq_true_eq]
theorem sign_ix {i : Int} : atI [D.str (Str.ofString ""), D.str (Str.ofString "-")] (if i < 0 then 1 else 0) = some (.str (TX (sgc i))) := by
  unfold sgc
  by_cases c : i < 0
  · rw [if_pos c, if_pos c, at1, txt_minus]
  · rw [if_neg c, if_neg c, at0, txt_empty]
theorem lt_round {l : Nat} {h : Hm} {x0 x1 x2 x3 x5 x6 x7 : Option D} {P : Po} (q : P.nx [x0, x1, x2, x3, some (.int (rnd l : Nat)), x5, x6, x7] h) : wpB G_law_text b_law_text_9 [x0, x1, x2, x3, some (.int (l : Int)), x5, x6, x7] h P := by
  unfold rnd at q
  fail "mini x_law_text"
  by_cases c2 : l % 2 = 0
  · rw [if_pos c2] at q
    rw [decide_eq_true (show (l : Int) % 2 = 0 by omega)]
    fail "mini x_law_text"
    rw [show (l : Int).fdiv 2 = ((l / 2 : Nat) : Int) from fdiv_nat l 2]
    exact q
  · rw [if_neg c2] at q
    rw [decide_eq_false (show ¬ (l : Int) % 2 = 0 by omega)]
    fail "mini x_law_text"
    by_cases c5 : l % 5 = 0
    · rw [if_pos c5] at q
      rw [decide_eq_true (show (l : Int) % 5 = 0 by omega)]
      fail "mini x_law_text"
      rw [show (l : Int).fdiv 5 = ((l / 5 : Nat) : Int) from fdiv_nat l 5]
      exact q
    · rw [if_neg c5] at q
      rw [decide_eq_false (show ¬ (l : Int) % 5 = 0 by omega)]
      fail "mini x_law_text"
      exact q
theorem e_law_text {q : Rat} {h : Hm} (b : QB q) : ∃ cs, IsTx q cs ∧ d_law_text [fr q] h = .ok (.str (TX cs)) h := by
  have p0 := q.den_pos
  have d1 := dg200 b.n
  have d2 := dg200 (n := q.den) (Nat.lt_trans b.d (Nat.pow_lt_pow_right (by decide) (by decide)))
  have s := sgc_len q.num
  have bn : q.num.natAbs < 2 ^ 1000 := Nat.lt_trans b.n (Nat.pow_lt_pow_right (by decide) (by decide))
  have bd' : q.den < 2 ^ 1000 := Nat.lt_trans b.d (Nat.pow_lt_pow_right (by decide) (by decide))
  have l400 : q.den < 2 ^ 400 := Nat.lt_trans b.d (Nat.pow_lt_pow_right (by decide) (by decide))
  have start : ∀ {Q : Po}, (∀ (L : Nat) x5, RnInv q.den 400 L → wpB G_law_text b_law_text_4 [some (fr q), some (.int (q.num.natAbs : Int)), some (.int (q.den : Int)), some (.str (TX (sgc q.num))), some (.int (L : Int)), x5, none, none] h Q) → wpB G_law_text b_law_text (startD c_law_text.N [fr q]) h Q := by
    intro Q k
    rw [show startD c_law_text.N [fr q] = [some (fr q), none, none, none, none, none, none, none] from rfl, fr_eq]
    rw [fr_eq] at k
    fail "mini x_law_text"
    rw [sign_ix, abs_if]
    fail "mini x_law_text"
    rw [show smallI 400 = true from smallI_mk (by decide) (by decide)]
    refine L_for (fun i σ h2 => h2 = h ∧ ∃ (L : Nat) (x5 : Option D), σ = [some (.tup [.int q.num, .int q.den]), some (.int (q.num.natAbs : Int)), some (.int (q.den : Int)), some (.str (TX (sgc q.num))), some (.int (L : Int)), x5, none, none] ∧ RnInv q.den i L) ⟨rfl, q.den, none, rfl, rn_0 p0⟩ ?_ ?_
    · rintro i d σ h2 hi ⟨rfl, L, x5, rfl, iv⟩
      refine ⟨_, rfl, lt_round ?_⟩
      exact ⟨rfl, rnd L, _, rfl, rn_step iv⟩
    · rintro σ h2 ⟨rfl, L, x5, rfl, iv⟩
      rw [rngD_length, show Int.toNat 400 = 400 from rfl] at iv
      exact k L x5 iv
  by_cases c : ∃ K, q.den ∣ 10 ^ K
  · obtain ⟨K, hK⟩ := c
    obtain ⟨p, i⟩ := least_of q.den (K + 1) K (by omega) hK
    have pf := i.few p0 b.d
    have cop : Nat.Coprime q.num.natAbs q.den := q.reduced
    refine ⟨_, .inl ⟨p, i, rfl⟩, den_TR rfl (fun v' z => tx_uniq z ⟨q, _, rfl, b, .inl ⟨p, i, rfl⟩, rfl⟩) ⟨q, _, rfl, b, .inl ⟨p, i, rfl⟩, rfl⟩ ?_⟩
    refine start fun L x5 iv => ?_
    have L1 := (rn_end iv l400).mpr ⟨K, hK⟩
    have d3 := dg200 (n := q.num.natAbs / q.den) (Nat.lt_of_le_of_lt (Nat.div_le_self _ _) b.n)
    rw [fr_eq]
    fail "mini x_law_text"
    rw [decide_eq_false (show ¬ (1 : Int) < (L : Int) by omega)]
    fail "mini x_law_text"
    rw [dvN p0 bd', fdiv_nat, str_nat (Nat.lt_of_le_of_lt (Nat.div_le_self _ _) bn)]
    fail "mini x_law_text"
    rw [grd_TX (by omega), TX_app]
    fail "mini x_law_text"
    rw [decide_eq_true (show (0 : Int) < (q.den : Int) by omega)]
    fail "mini x_law_text"
    rw [mod_nat]
    by_cases c0 : q.num.natAbs % q.den = 0
    · have hp : p = 0 := by
        rcases Nat.eq_zero_or_pos p with z | z
        · exact z
        · exfalso
          refine i.2 0 z ((rest_zero cop).mp ?_)
          rw [c0, Nat.zero_mul, Nat.zero_mod]
      subst hp
      have e1 : q.den = 1 := Nat.dvd_one.mp i.1
      rw [if_pos rfl, c0, e1, Nat.div_one]
      fail "mini x_law_text"
      refine L_while (m := 0) (fun m σ h2 => h2 = h ∧ σ = [some (.tup [.int q.num, .int (1 : Nat)]), some (.int (q.num.natAbs : Int)), some (.int ((1 : Nat) : Int)), some (.str (TX (sgc q.num))), some (.int (L : Int)), x5, some (.str (TX (sgc q.num ++ dg q.num.natAbs))), some (.int ((0 : Nat) : Int))]) ⟨rfl, rfl⟩ ?_
      rintro m σ h2 ⟨rfl, rfl⟩
      fail "mini x_law_text"
      refine And.intro (fun z => by cases z) (fun _ => ?_)
      fail "mini x_law_text"
      exact .refl
    · have hp : p ≠ 0 := fun z => c0 (by
        rw [z] at i
        rw [Nat.dvd_one.mp i.1, Nat.mod_one])
      rw [if_neg hp, decide_eq_true (show (0 : Int) < ((q.num.natAbs % q.den : Nat) : Int) by omega)]
      fail "mini x_law_text"
      rw [txt_point, grd_TX (by rw [List.length_append, List.length_singleton]; omega), TX_app]
      have lS : (sgc q.num ++ dg (q.num.natAbs / q.den) ++ [46]).length ≤ 195 := by rw [List.length_append, List.length_append, List.length_singleton]; omega
      generalize hS : sgc q.num ++ dg (q.num.natAbs / q.den) ++ [46] = S at lS ⊢
      generalize hr : q.num.natAbs % q.den = r
      have rl : r < q.den := by rw [← hr]; exact Nat.mod_lt _ p0
      have rz : ∀ j, r * 10 ^ j % q.den = 0 ↔ q.den ∣ 10 ^ j := fun j => by rw [← hr]; exact rest_zero cop
      fail "mini x_law_text"
      refine L_while (m := p) (fun m σ h2 => h2 = h ∧ ∃ j : Nat, j + m = p ∧ σ = [some (.tup [.int q.num, .int (q.den : Int)]), some (.int (q.num.natAbs : Int)), some (.int (q.den : Int)), some (.str (TX (sgc q.num))), some (.int (L : Int)), x5, some (.str (TX (S ++ pad j (r * 10 ^ j / q.den)))), some (.int ((r * 10 ^ j % q.den : Nat) : Int))]) ⟨rfl, 0, by omega, by rw [Nat.pow_zero, Nat.mul_one, Nat.mod_eq_of_lt rl, show pad 0 (r / q.den) = [] from rfl, List.append_nil]⟩ ?_
      rintro m σ h2 ⟨rfl, j, hj, rfl⟩
      fail "mini x_law_text"
      by_cases cj : m = 0
      · have ej : j = p := by omega
        subst ej
        rw [(rz j).mpr i.1, decide_eq_false (show ¬ (0 : Int) < ((0 : Nat) : Int) by decide)]
        refine And.intro (fun z => by cases z) (fun _ => ?_)
        fail "mini x_law_text"
        exact .refl
      · have nz : r * 10 ^ j % q.den ≠ 0 := fun z => i.2 j (by omega) ((rz j).mp z)
        rw [decide_eq_true (show (0 : Int) < ((r * 10 ^ j % q.den : Nat) : Int) by omega)]
        refine And.intro (fun _ => ?_) (fun z => by cases z)
        have t10 : 10 < 2 ^ 1000 := Nat.lt_of_lt_of_le (show 10 < 2 ^ 4 by decide) (Nat.pow_le_pow_right (by decide) (by decide))
        obtain ⟨_, dl⟩ := dig_step (x := r * 10 ^ j) p0
        have ps := pad_step (x := r * 10 ^ j) (j := j) p0
        have ro := rest_of (b := q.den) r j
        rw [Nat.mul_comm] at ro
        have lp : (pad j (r * 10 ^ j / q.den)).length = j := pad_len _ _
        rw [Nat.mul_assoc, ← Nat.pow_succ] at ps
        generalize r * 10 ^ j % q.den = y at *
        rw [mulOk_r (by decide) (by decide), dvN p0 bd', show (y : Int) * 10 = ((y * 10 : Nat) : Int) by omega, fdiv_nat, str_nat (Nat.lt_trans dl t10)]
        fail "mini x_law_text"
        rw [grd_TX (by rw [List.length_append, lp]; have := dg_len (k := 1) (by decide) (show y * 10 / q.den < 10 ^ 1 from dl); omega), TX_app, List.append_assoc, ← ps]
        fail "mini x_law_text"
        rw [mulOk_r (by decide) (by decide), decide_eq_true (show (0 : Int) < (q.den : Int) by omega), show (y : Int) * 10 = ((y * 10 : Nat) : Int) by omega, mod_nat, ro]
        fail "mini x_law_text"
        exact ⟨m - 1, by omega, by first | trivial | rfl, j + 1, by omega, rfl⟩
  · have n : ∀ j, ¬ q.den ∣ 10 ^ j := fun j hj => c ⟨j, hj⟩
    refine ⟨_, .inr ⟨n, rfl⟩, den_TR rfl (fun v' z => tx_uniq z ⟨q, _, rfl, b, .inr ⟨n, rfl⟩, rfl⟩) ⟨q, _, rfl, b, .inr ⟨n, rfl⟩, rfl⟩ ?_⟩
    refine start fun L x5 iv => ?_
    have L1 : ¬ L ≤ 1 := fun z => c ((rn_end iv l400).mp z)
    rw [fr_eq]
    fail "mini x_law_text"
    rw [decide_eq_true (show (1 : Int) < (L : Int) by omega)]
    fail "mini x_law_text"
    rw [str_nat bn]
    fail "mini x_law_text"
    rw [grd_TX (by omega), TX_app, txt_stroke]
    fail "mini x_law_text"
    rw [grd_TX (by rw [List.length_append, List.length_singleton]; omega), TX_app]
    fail "mini x_law_text"
    rw [str_nat bd']
    fail "mini x_law_text"
    rw [grd_TX (by rw [List.length_append, List.length_append, List.length_singleton]; omega), TX_app]
    fail "mini x_law_text"
    exact .refl

/-! reading texts -/
open PySem.NumText (AllDigits digitsVal)
structure OkT (cs : List Nat) : Prop where
  few : cs.length ≤ 1000
  lo : ∀ c ∈ cs, c < 200
theorem OkT.ok {cs : List Nat} (o : OkT cs) : PyData.strOk (TX cs) = true := TX_ok fun c hc => by have := o.lo c hc; omega
theorem OkT.sub {cs ds : List Nat} (o : OkT cs) (l : ds.length ≤ cs.length) (m : ∀ c ∈ ds, c ∈ cs) : OkT ds := ⟨by have := o.few; omega, fun c hc => o.lo c (m c hc)⟩
theorem OkT.cut {cs : List Nat} (o : OkT cs) (i n : Nat) : OkT ((cs.drop i).take n) := o.sub (by rw [List.length_take, List.length_drop]; omega) fun c hc => List.mem_of_mem_drop (List.mem_of_mem_take hc)
theorem okT_1 {c : Nat} (h : c < 200) : OkT [c] := ⟨by simp, fun d hd => by rw [List.mem_singleton.mp hd]; exact h⟩
theorem okT_0 : OkT [] := ⟨by simp, fun d hd => by cases hd⟩
theorem eq_TX {a b : List Nat} {h : Hm} (oa : OkT a) (ob : OkT b) : eqD (.str (TX a)) (.str (TX b)) h = .ok (decide (a = b)) h := by
  rw [eq_strG, oa.ok, ob.ok, Bool.and_self, Res.guard_true]
  congr 1
  exact decide_eq_decide.mpr TX_eq
theorem ix_TX {cs : List Nat} {i c : Nat} {h : Hm} (o : OkT cs) (e : cs[i]? = some c) : ixD (.str (TX cs)) (.int (i : Int)) h = .ok (.str (TX [c])) h := by
  have hi : i < cs.length := (List.getElem?_eq_some_iff.mp e).1
  show (match atI (TX cs).cps.toList (i : Int) with
    | some c => Res.guard (decide ((TX cs).length ≤ LIM)) (.ok (D.str ⟨#[c]⟩) h)
    | none => .stuck) = _
  rw [TX_cps, atI_nat hi, e]
  dsimp only
  rw [len_TX (by have := o.few; omega)]
  rfl
theorem cut_D {cs : List Nat} {lo hi : Option Int} {h : Hm} (o : OkT cs) : cutD (.str (TX cs)) lo hi h = .ok (.str (TX (cutL cs lo hi))) h := by
  show Res.guard (decide ((TX cs).length ≤ LIM)) (.ok (D.str (cutS (TX cs) lo hi)) h) = _
  rw [len_TX (by have := o.few; omega), TX_cut]
def nd (cs : List Nat) : Nat := (cs.takeWhile isDg).length
theorem nd_app : ∀ {a b : List Nat}, AllDigits a → (b = [] ∨ ∃ c r, b = c :: r ∧ isDg c = false) → nd (a ++ b) = a.length
  | [], b, _, h => by
    rcases h with rfl | ⟨c, r, rfl, e⟩
    · rfl
    · unfold nd
      rw [List.nil_append, List.takeWhile_cons, e]
      rfl
  | c :: a, b, ha, h => by
    have hc := ha.head
    have e : isDg c = true := by unfold isDg; rw [decide_eq_true hc.1, decide_eq_true hc.2]; rfl
    have := nd_app ha.tail h
    unfold nd at this ⊢
    rw [List.cons_append, List.takeWhile_cons, e]
    show ((a ++ b).takeWhile isDg).length + 1 = _
    rw [this]
    rfl
def P_de : List D → D → Prop := fun ds r => ∃ (cs : List Nat) (i : Nat), ds = [.str (TX cs), .int (i : Int)] ∧ OkT cs ∧ r = .int ((i + nd (cs.drop i) : Nat) : Int)
noncomputable def G_digits_end : Gam := gamL [] [(0, .str "0123456789")]
theorem gl_digits_end_0 {h : Hm} : globG G_digits_end 0 h = .ok (.str "0123456789") h := rfl
theorem N_digits_end : c_digits_end.N = (["text", "at"] : List Str) := rfl
noncomputable def d_digits_end : List D → Hm → Res D := denT G_digits_end c_digits_end.N 2 b_digits_end (TR P_de)
theorem sp_digits_end {ds : List D} {h : Hm} (hl : ds.length = 2) (w : wpB G_digits_end b_digits_end (startD c_digits_end.N ds) h (PoT (TR P_de) ds h)) : ∃ r h2, d_digits_end ds h = .ok r h2 ∧ (TR P_de) ds h r h2 := denT_ok hl w
theorem ub_digits_end_3 {Γ : Gam} {σ : Sg} {h : Hm} {P : Po} : wpB Γ b_digits_end_3 σ h P = wpB Γ (.cons (.augI 1 (.int 1)) .nil) σ h P := rfl
theorem ub_digits_end_2 {Γ : Gam} {σ : Sg} {h : Hm} {P : Po} : wpB Γ b_digits_end_2 σ h P = wpB Γ (.cons (.ret (.v 1)) .nil) σ h P := rfl
theorem ub_digits_end {Γ : Gam} {σ : Sg} {h : Hm} {P : Po} : wpB Γ b_digits_end σ h P = wpB Γ (.cons (.while_ (.band (.cmp .ne (.slice (.v 0) (.some (.v 1)) (.some (.op2 .add (.v 1) (.int 1)))) (.str "")) (.cmp .isin (.ix (.v 0) (.v 1)) (.glob 0))) b_digits_end_3) b_digits_end_2) σ h P := rfl
local macro_rules | `(tactic| fail "mini u_digits_end") => `(tactic| simp only [N_digits_end, gl_digits_end_0, opn_tup, opn_lst, opn_int, opn_str, opn_bl, opn_non, eq_self, ub_digits_end_3, ub_digits_end_2, ub_digits_end])
local macro_rules | `(tactic| fail "mini x_digits_end") => `(tactic| repeat (first | fail "mini fw" | fail "mini u_digits_end" | fail "mini fxx"))
theorem de_uniq {ds : List D} {r r' : D} (a : P_de ds r) (b : P_de ds r') : r = r' := by
  obtain ⟨cs, i, rfl, _, rfl⟩ := a
  obtain ⟨cs2, i2, e, _, rfl⟩ := b
  obtain ⟨e1, e2⟩ := in2 e
  injection e1 with e1
  injection e2 with e2
  rw [TX_inj e1, Int.ofNat.inj e2]
theorem e_digits_end {cs : List Nat} {i : Nat} {h : Hm} (o : OkT cs) : d_digits_end [.str (TX cs), .int (i : Int)] h = .ok (.int ((i + nd (cs.drop i) : Nat) : Int)) h := by
  have t : P_de [.str (TX cs), .int (i : Int)] (.int ((i + nd (cs.drop i) : Nat) : Int)) := ⟨cs, i, rfl, o, rfl⟩
  refine den_TR rfl (fun v' z => de_uniq z t) t ?_
  fail "mini x_digits_end"
  refine L_while (m := (cs.drop i).length) (fun m σ h2 => h2 = h ∧ ∃ j : Nat, σ = [some (.str (TX cs)), some (.int (j : Int))] ∧ (cs.drop j).length = m ∧ i + nd (cs.drop i) = j + nd (cs.drop j)) ⟨rfl, i, rfl, rfl, rfl⟩ ?_
  rintro m σ h2 ⟨rfl, j, rfl, rfl, hn⟩
  rw [hn]
  clear hn t
  fail "mini x_digits_end"
  rw [len_TX (by have := o.few; omega), show ((j : Int) + 1) = ((j + 1 : Nat) : Int) from rfl, TX_cut, cutMid, show j + 1 - j = 1 by omega, (o.cut j 1).ok, Res.guard_true, txt_empty, txt_digits]
  cases e : cs.drop j with
  | nil =>
    rw [List.take_nil, decide_eq_true rfl]
    fail "mini x_digits_end"
    refine And.intro (fun z => by cases z) (fun _ => ?_)
    exact .refl
  | cons c r =>
    have ec : cs[j]? = some c := by
      have : (cs.drop j)[0]? = some c := by rw [e]; rfl
      rwa [List.getElem?_drop, Nat.add_zero] at this
    have er : cs.drop (j + 1) = r := by
      rw [← List.drop_drop, e]
      rfl
    rw [show (c :: r).take 1 = [c] from rfl, decide_eq_false (fun z => by cases TX_inj z)]
    fail "mini x_digits_end"
    rw [ix_TX o ec]
    fail "mini x_digits_end"
    rw [in_digits]
    cases k : isDg c
    · refine And.intro (fun z => by cases z) (fun _ => ?_)
      have n0 : nd (c :: r) = 0 := by unfold nd; rw [List.takeWhile_cons, k]; rfl
      rw [n0]
      exact .refl
    · refine And.intro (fun _ => ?_) (fun z => by cases z)
      have n0 : nd (c :: r) = nd r + 1 := by unfold nd; rw [List.takeWhile_cons, k]; rfl
      exact ⟨r.length, by simp, by first | trivial | rfl, j + 1, rfl, by rw [er], by rw [er, n0]; omega⟩

/-! what a text tells: plain -/
open PySem.NumText (AllDigits digitsVal)
def rdT (X : Nat) : List Nat → Rat
  | [] => ((X : Int) : Rat)
  | c :: f => if c = 46 then Rat.divInt ((X * 10 ^ f.length + digitsVal f : Nat) : Int) ((10 ^ f.length : Nat) : Int) else Rat.divInt (X : Int) (digitsVal f : Int)
def rdB (cs : List Nat) : Rat := rdT (digitsVal (cs.takeWhile isDg)) (cs.drop (cs.takeWhile isDg).length)
def rdQ (cs : List Nat) : Rat := if cs.head? = some 45 then -(rdB (cs.drop 1)) else rdB cs
def NonD (b : List Nat) : Prop := b = [] ∨ ∃ c r, b = c :: r ∧ isDg c = false
theorem tw_app : ∀ {a b : List Nat}, AllDigits a → NonD b → (a ++ b).takeWhile isDg = a
  | [], b, _, h => by
    rcases h with rfl | ⟨c, r, rfl, e⟩
    · rfl
    · rw [List.nil_append, List.takeWhile_cons, e]
      rfl
  | c :: a, b, ha, h => by
    have hc := ha.head
    have e : isDg c = true := by unfold isDg; rw [decide_eq_true hc.1, decide_eq_true hc.2]; rfl
    rw [List.cons_append, List.takeWhile_cons, e]
    show c :: _ = c :: _
    rw [tw_app ha.tail h]
theorem rdT_pt {X : Nat} {f : List Nat} : rdT X (46 :: f) = Rat.divInt ((X * 10 ^ f.length + digitsVal f : Nat) : Int) ((10 ^ f.length : Nat) : Int) := by
  show (if (46 : Nat) = 46 then Rat.divInt ((X * 10 ^ f.length + digitsVal f : Nat) : Int) ((10 ^ f.length : Nat) : Int) else Rat.divInt (X : Int) (digitsVal f : Int)) = _
  exact if_pos rfl
theorem rdT_st {X : Nat} {f : List Nat} : rdT X (47 :: f) = Rat.divInt (X : Int) (digitsVal f : Int) := by
  show (if (47 : Nat) = 46 then Rat.divInt ((X * 10 ^ f.length + digitsVal f : Nat) : Int) ((10 ^ f.length : Nat) : Int) else Rat.divInt (X : Int) (digitsVal f : Int)) = _
  exact if_neg (by decide)
theorem rdB_of {X : Nat} {tl : List Nat} (h : NonD tl) : rdB (dg X ++ tl) = rdT X tl := by
  unfold rdB
  rw [tw_app (dg_all X) h, List.drop_left, dg_val]
theorem rdQ_of {n : Int} {X : Nat} {tl : List Nat} (h : NonD tl) : rdQ (sgc n ++ (dg X ++ tl)) = if n < 0 then -(rdT X tl) else rdT X tl := by
  unfold rdQ sgc
  by_cases c : n < 0
  · rw [if_pos c, if_pos c]
    exact (if_pos (show (45 :: (dg X ++ tl)).head? = some 45 from rfl)).trans (congrArg (fun x : Rat => -x) (rdB_of h))
  · rw [if_neg c, if_neg c, List.nil_append, rdB_of h, if_neg]
    intro z
    obtain ⟨a, as, e⟩ := List.exists_cons_of_ne_nil (dg_ne X)
    rw [e, List.cons_append, List.head?_cons] at z
    have := (dg_all X) a (by rw [e]; exact List.mem_cons_self)
    have := Option.some.inj z
    omega
theorem dec_facts {N d p : Nat} (hd : 0 < d) (c : Nat.Coprime N d) (i : IsP d p) (hp : p ≠ 0) :
    N % d * 10 ^ p / d < 10 ^ p ∧ N % d * 10 ^ p / d % 10 ≠ 0 ∧ d * (N / d * 10 ^ p + N % d * 10 ^ p / d) = N * 10 ^ p := by
  have p10 : 0 < 10 ^ p := Nat.pow_pos (by decide)
  have e1 : d * (N % d * 10 ^ p / d) = N % d * 10 ^ p := Nat.mul_div_cancel' (Nat.dvd_mul_left_of_dvd i.1 _)
  refine ⟨Nat.div_lt_of_lt_mul (Nat.mul_lt_mul_of_pos_right (Nat.mod_lt _ hd) p10), fun z => ?_, ?_⟩
  · obtain ⟨k, rfl⟩ : ∃ k, p = k + 1 := ⟨p - 1, by omega⟩
    refine i.2 k (by omega) ((rest_zero c).mp ?_)
    generalize N % d * 10 ^ (k + 1) / d = R at *
    obtain ⟨R', rfl⟩ : ∃ R', R = 10 * R' := ⟨R / 10, by omega⟩
    have e2 : d * R' = N % d * 10 ^ k := by
      rw [Nat.pow_succ] at e1
      have : 10 * (d * R') = 10 * (N % d * 10 ^ k) := by
        calc 10 * (d * R') = d * (10 * R') := by rw [Nat.mul_left_comm]
          _ = N % d * (10 ^ k * 10) := e1
          _ = 10 * (N % d * 10 ^ k) := by rw [← Nat.mul_assoc, Nat.mul_comm]
      exact Nat.eq_of_mul_eq_mul_left (by decide) this
    rw [← e2, Nat.mul_mod_right]
  · have := Nat.div_add_mod N d
    rw [Nat.mul_add, e1, ← Nat.mul_assoc, ← Nat.add_mul, this]
theorem divInt_cross {a b c d : Nat} (hb : b ≠ 0) (hd : d ≠ 0) (e : a * d = c * b) : Rat.divInt (a : Int) (b : Int) = Rat.divInt (c : Int) (d : Int) := by
  rw [Rat.divInt_eq_divInt_iff (by omega) (by omega)]
  exact_mod_cast e
theorem abs_q (q : Rat) : q = if q.num < 0 then -(Rat.divInt (q.num.natAbs : Int) (q.den : Int)) else Rat.divInt (q.num.natAbs : Int) (q.den : Int) := by
  have e := rat_self q
  split
  · rename_i c
    rw [show (q.num.natAbs : Int) = -q.num by omega, Rat.neg_divInt, Int.neg_neg, e]
  · rename_i c
    rw [show (q.num.natAbs : Int) = q.num by omega, e]
theorem rdQ_tx {q : Rat} {cs : List Nat} (x : IsTx q cs) : rdQ cs = q := by
  have p0 := q.den_pos
  have cop : Nat.Coprime q.num.natAbs q.den := q.reduced
  have aq := abs_q q
  have key : ∀ X tl, NonD tl → cs = sgc q.num ++ (dg X ++ tl) → rdT X tl = Rat.divInt (q.num.natAbs : Int) (q.den : Int) → rdQ cs = q := fun X tl h e r => by
    rw [e, rdQ_of h, r]
    exact aq.symm
  rcases x with ⟨p, i, e⟩ | ⟨n, e⟩
  · by_cases c : p = 0
    · subst c
      rw [if_pos rfl] at e
      refine key q.num.natAbs [] (.inl rfl) (by rw [List.append_nil]; exact e) ?_
      rw [Nat.dvd_one.mp i.1]
      show ((q.num.natAbs : Int) : Rat) = _
      rw [show (((1 : Nat) : Int)) = 1 from rfl, Rat.divInt_eq_div, show ((1 : Int) : Rat) = 1 from rfl]
      grind
    · rw [if_neg c] at e
      obtain ⟨r1, r2, r3⟩ := dec_facts p0 cop i c
      refine key (q.num.natAbs / q.den) (46 :: pad p (q.num.natAbs % q.den * 10 ^ p / q.den)) (.inr ⟨46, _, rfl, by decide⟩) (by rw [e]; simp only [List.append_assoc, List.singleton_append]) ?_
      rw [rdT_pt, pad_len, pad_val _ _ r1]
      exact divInt_cross (Nat.pos_iff_ne_zero.mp (Nat.pow_pos (by decide))) (by omega) (by rw [Nat.mul_comm]; exact r3)
  · refine key q.num.natAbs (47 :: dg q.den) (.inr ⟨47, _, rfl, by decide⟩) (by rw [e]; simp only [List.append_assoc, List.singleton_append]) ?_
    rw [rdT_st, dg_val]

/-! reading a point's text -/
open PySem.NumText (AllDigits digitsVal)
theorem int_D {cs : List Nat} {h : Hm} (a : AllDigits cs) (ne : cs ≠ []) (l : cs.length ≤ 600) : biD .int [.str (TX cs)] h = .ok (.int (digitsVal cs : Int)) h := by
  show (match PySem.intText? (TX cs) with
    | some n => Res.guard (decide ((TX cs).length ≤ 640)) (.ok (D.int n) h)
    | none => .stuck) = _
  rw [int_digits a ne (by omega), TX_len]
  dsimp only
  rw [decide_eq_true (show cs.length ≤ 640 by omega)]
  rfl
theorem int_N {cs : List Nat} {h : Hm} (a : AllDigits cs) (ne : cs ≠ []) (l : cs.length ≤ 500) : biD .int [.str (TX (45 :: cs))] h = .ok (.int (-(digitsVal cs : Int))) h := by
  show (match PySem.intText? (TX (45 :: cs)) with
    | some n => Res.guard (decide ((TX (45 :: cs)).length ≤ 640)) (.ok (D.int n) h)
    | none => .stuck) = _
  rw [int_neg a ne (by omega), TX_len]
  dsimp only
  rw [decide_eq_true (show (45 :: cs).length ≤ 640 by rw [List.length_cons]; omega)]
  rfl
theorem dg_ok {n : Nat} : ∀ c ∈ dg n, c < 200 := fun c hc => by have := dg_all n c hc; omega
theorem pad_ok {k n : Nat} : ∀ c ∈ pad k n, c < 200 := fun c hc => by have := pad_all k n c hc; omega
theorem sgc_ok {i : Int} : ∀ c ∈ sgc i, c < 200 := fun c hc => by
  unfold sgc at hc
  split at hc
  · rw [List.mem_singleton.mp hc]; decide
  · cases hc
theorem pad_last {k R : Nat} : (pad (k + 1) R)[k]? = some (48 + R % 10) := by
  rw [pad_app, List.getElem?_append_right (by rw [pad_len]; exact Nat.le_refl _), pad_len, Nat.sub_self]
  rfl
def P_dt : List D → D → Prop := fun ds r => ∃ (cs : List Nat) (a e : Nat), ds = [.str (TX cs), .int (a : Int), .int (e : Int)] ∧ (∃ (n : Int) (W p R : Nat), p ≠ 0 ∧ p ≤ 210 ∧ R < 10 ^ p ∧ R % 10 ≠ 0 ∧ W < 2 ^ 640 ∧ cs = sgc n ++ (dg W ++ (46 :: pad p R)) ∧ a = (sgc n).length ∧ e = (sgc n).length + (dg W).length) ∧ r = fr (rdQ cs)
noncomputable def G_decimal_told : Gam := gamL [(n_lowest, d_lowest), (n_digits_end, d_digits_end)] []
theorem cg_decimal_told_lowest {ds : List D} {h : Hm} : callG G_decimal_told n_lowest ds h = d_lowest ds h := rfl
theorem cg_decimal_told_digits_end {ds : List D} {h : Hm} : callG G_decimal_told n_digits_end ds h = d_digits_end ds h := rfl
theorem N_decimal_told : c_decimal_told.N = (["text", "at", "end", "last", "power", "turn", "top"] : List Str) := rfl
noncomputable def d_decimal_told : List D → Hm → Res D := denT G_decimal_told c_decimal_told.N 3 b_decimal_told (TR P_dt)
theorem sp_decimal_told {ds : List D} {h : Hm} (hl : ds.length = 3) (w : wpB G_decimal_told b_decimal_told (startD c_decimal_told.N ds) h (PoT (TR P_dt) ds h)) : ∃ r h2, d_decimal_told ds h = .ok r h2 ∧ (TR P_dt) ds h r h2 := denT_ok hl w
theorem ub_decimal_told_7 {Γ : Gam} {σ : Sg} {h : Hm} {P : Po} : wpB Γ b_decimal_told_7 σ h P = wpB Γ (.cons .never .nil) σ h P := rfl
theorem ub_decimal_told_8 {Γ : Gam} {σ : Sg} {h : Hm} {P : Po} : wpB Γ b_decimal_told_8 σ h P = wpB Γ (.cons (.set 4 (.op2 .mul (.v 4) (.int 10))) .nil) σ h P := rfl
theorem ub_decimal_told_6 {Γ : Gam} {σ : Sg} {h : Hm} {P : Po} : wpB Γ b_decimal_told_6 σ h P = wpB Γ (.cons (.ret (.call n_lowest (.cons (.ifx (.cmp .eq (.v 1) (.int 1)) (.neg (.v 6)) (.v 6)) (.cons (.v 4) .nil)))) .nil) σ h P := rfl
theorem ub_decimal_told_5 {Γ : Gam} {σ : Sg} {h : Hm} {P : Po} : wpB Γ b_decimal_told_5 σ h P = wpB Γ (.cons (.set 6 (.op2 .add (.op2 .mul (.bi .int (.cons (.slice (.v 0) (.some (.v 1)) (.some (.v 2))) .nil)) (.v 4)) (.bi .int (.cons (.slice (.v 0) (.some (.op2 .add (.v 2) (.int 1))) (.some (.v 3))) .nil)))) b_decimal_told_6) σ h P := rfl
theorem ub_decimal_told_4 {Γ : Gam} {σ : Sg} {h : Hm} {P : Po} : wpB Γ b_decimal_told_4 σ h P = wpB Γ (.cons (.for_ (.v 5) (.rng1 (.op2 .sub (.op2 .sub (.v 3) (.v 2)) (.int 1))) b_decimal_told_8) b_decimal_told_5) σ h P := rfl
theorem ub_decimal_told_3 {Γ : Gam} {σ : Sg} {h : Hm} {P : Po} : wpB Γ b_decimal_told_3 σ h P = wpB Γ (.cons (.set 4 (.int 1)) b_decimal_told_4) σ h P := rfl
theorem ub_decimal_told_2 {Γ : Gam} {σ : Sg} {h : Hm} {P : Po} : wpB Γ b_decimal_told_2 σ h P = wpB Γ (.cons (.ife (.bor (.cmp .lt (.v 3) (.bi .len (.cons (.v 0) .nil))) (.bor (.cmp .eq (.v 3) (.op2 .add (.v 2) (.int 1))) (.cmp .eq (.ix (.v 0) (.op2 .sub (.v 3) (.int 1))) (.str "0")))) b_decimal_told_7 .nil) b_decimal_told_3) σ h P := rfl
theorem ub_decimal_told {Γ : Gam} {σ : Sg} {h : Hm} {P : Po} : wpB Γ b_decimal_told σ h P = wpB Γ (.cons (.set 3 (.call n_digits_end (.cons (.v 0) (.cons (.op2 .add (.v 2) (.int 1)) .nil)))) b_decimal_told_2) σ h P := rfl
local macro_rules | `(tactic| fail "mini u_decimal_told") => `(tactic| simp only [N_decimal_told, cg_decimal_told_lowest, cg_decimal_told_digits_end, e_lowest, e_digits_end, opn_tup, opn_lst, opn_int, opn_str, opn_bl, opn_non, eq_self, ub_decimal_told_7, ub_decimal_told_8, ub_decimal_told_6, ub_decimal_told_5, ub_decimal_told_4, ub_decimal_told_3, ub_decimal_told_2, ub_decimal_told])
local macro_rules | `(tactic| fail "mini x_decimal_told") => `(tactic| repeat (first | fail "mini fw" | fail "mini u_decimal_told" | fail "mini fxx"))
theorem dt_uniq {ds : List D} {r r' : D} (a : P_dt ds r) (b : P_dt ds r') : r = r' := by
  obtain ⟨cs, i, j, rfl, _, rfl⟩ := a
  obtain ⟨cs2, i2, j2, e, _, rfl⟩ := b
  obtain ⟨e1, e2, e3⟩ := in3 e
  injection e1 with e1
  rw [TX_inj e1]
theorem e_decimal {n : Int} {W p R : Nat} {h : Hm} (hp : p ≠ 0) (p2 : p ≤ 210) (hR : R < 10 ^ p) (h10 : R % 10 ≠ 0) (W6 : W < 2 ^ 640) :
    d_decimal_told [.str (TX (sgc n ++ (dg W ++ (46 :: pad p R)))), .int ((sgc n).length : Int), .int (((sgc n).length + (dg W).length : Nat) : Int)] h = .ok (fr (rdQ (sgc n ++ (dg W ++ (46 :: pad p R))))) h := by
  have t : P_dt [.str (TX (sgc n ++ (dg W ++ (46 :: pad p R)))), .int ((sgc n).length : Int), .int (((sgc n).length + (dg W).length : Nat) : Int)] (fr (rdQ (sgc n ++ (dg W ++ (46 :: pad p R))))) := ⟨_, _, _, rfl, ⟨n, W, p, R, hp, p2, hR, h10, W6, rfl, rfl, rfl⟩, rfl⟩
  refine den_TR rfl (fun v' z => dt_uniq z t) t ?_
  have s := sgc_len n
  have hW := dg200 W6
  have vW : digitsVal (dg W) = W := dg_val W
  have vR : digitsVal (pad p R) = R := pad_val _ _ hR
  have aW := dg_all W
  have aR := pad_all p R
  have nW := dg_ne W
  have rd : rdQ (sgc n ++ (dg W ++ (46 :: pad p R))) = if n < 0 then -(Rat.divInt ((W * 10 ^ p + R : Nat) : Int) ((10 ^ p : Nat) : Int)) else Rat.divInt ((W * 10 ^ p + R : Nat) : Int) ((10 ^ p : Nat) : Int) := by
    rw [rdQ_of (.inr ⟨46, _, rfl, by decide⟩), rdT_pt, pad_len, pad_val _ _ hR]
  rw [rd]
  have o : OkT (sgc n ++ (dg W ++ (46 :: pad p R))) := ⟨by rw [List.length_append, List.length_append, List.length_cons, pad_len]; omega, fun c hc => by
    rcases List.mem_append.mp hc with hc | hc
    · exact sgc_ok c hc
    · rcases List.mem_append.mp hc with hc | hc
      · exact dg_ok c hc
      · rcases List.mem_cons.mp hc with rfl | hc
        · decide
        · exact pad_ok c hc⟩
  have hl : (sgc n ++ (dg W ++ (46 :: pad p R))).length = (sgc n).length + (dg W).length + 1 + p := by rw [List.length_append, List.length_append, List.length_cons, pad_len]; omega
  have d1 : (sgc n ++ (dg W ++ (46 :: pad p R))).drop (sgc n).length = dg W ++ (46 :: pad p R) := List.drop_left
  have d2 : (sgc n ++ (dg W ++ (46 :: pad p R))).drop ((sgc n).length + (dg W).length + 1) = pad p R := by
    rw [Nat.add_assoc, ← List.drop_drop, d1, ← List.drop_drop, List.drop_left]
    rfl
  have nn : nd (pad p R) = p := by
    have := nd_app (pad_all p R) (b := []) (.inl rfl)
    rwa [List.append_nil, pad_len] at this
  obtain ⟨k, rfl⟩ : ∃ k, p = k + 1 := ⟨p - 1, by omega⟩
  have la : (sgc n ++ (dg W ++ (46 :: pad (k + 1) R)))[(sgc n).length + (dg W).length + 1 + k]? = some (48 + R % 10) := by
    have z := congrArg (fun l => l[k]?) d2
    simp only [List.getElem?_drop] at z
    rw [z, pad_last]
  have c1 : ((sgc n ++ (dg W ++ (46 :: pad (k + 1) R))).drop (sgc n).length).take (dg W).length = dg W := by rw [d1, List.take_left]
  have c2 : ((sgc n ++ (dg W ++ (46 :: pad (k + 1) R))).drop ((sgc n).length + (dg W).length + 1)).take (k + 1) = pad (k + 1) R := by rw [d2, List.take_of_length_le (by rw [pad_len]; exact Nat.le_refl _)]
  have lR : (pad (k + 1) R).length = k + 1 := pad_len _ _
  have q10 : 10 ^ (k + 1) < 2 ^ 700 := ten_lt p2
  have p10 : 0 < 10 ^ (k + 1) := Nat.pow_pos (by decide)
  have m1 : mulOk (W : Int) ((10 ^ (k + 1) : Nat) : Int) = true := mulOk_bd (n := 640) (m := 700) (by rw [Int.natAbs_natCast]; exact W6) (by rw [Int.natAbs_natCast]; exact q10) (by decide) (by decide) (by decide)
  have ok : okDen ((10 ^ (k + 1) : Nat) : Int) = true := okDen_bd (n := 700) (by omega) (by rw [Int.natAbs_natCast]; exact q10) (by decide) (by decide)
  generalize hcs : sgc n ++ (dg W ++ (46 :: pad (k + 1) R)) = cs at *
  generalize hsa : (sgc n).length = a at *
  generalize hsw : (dg W).length = w at *
  clear hcs d1 t W6 q10
  fail "mini x_decimal_told"
  rw [show (((a + w : Nat) : Int) + 1) = ((a + w + 1 : Nat) : Int) from rfl, e_digits_end o, d2, nn]
  fail "mini x_decimal_told"
  rw [len_TX (by have := o.few; omega), TX_len, hl, decide_eq_false (show ¬ ((a + w + 1 + (k + 1) : Nat) : Int) < ((a + w + 1 + (k + 1) : Nat) : Int) by omega)]
  fail "mini x_decimal_told"
  rw [decide_eq_false (show ¬ ((a + w + 1 + (k + 1) : Nat) : Int) = ((a + w : Nat) : Int) + 1 by omega)]
  fail "mini x_decimal_told"
  rw [show (((a + w + 1 + (k + 1) : Nat) : Int) - 1) = ((a + w + 1 + k : Nat) : Int) by omega, ix_TX o la]
  fail "mini x_decimal_told"
  rw [txt_0, (okT_1 (c := 48 + R % 10) (by omega)).ok, Res.guard_true, decide_eq_false (fun z => by have := (List.cons.inj (TX_inj z)).1; omega)]
  fail "mini x_decimal_told"
  rw [show (((a + w + 1 + (k + 1) : Nat) : Int) - ((a + w : Nat) : Int) - 1) = ((k + 1 : Nat) : Int) by omega, show smallI ((k + 1 : Nat) : Int) = true from smallI_mk (by omega) (by omega)]
  refine L_for (fun i σ h2 => h2 = h ∧ ∃ x5, σ = [some (.str (TX cs)), some (.int (a : Int)), some (.int ((a + w : Nat) : Int)), some (.int ((a + w + 1 + (k + 1) : Nat) : Int)), some (.int ((10 ^ i : Nat) : Int)), x5, none]) ⟨rfl, _, rfl⟩ ?_ ?_
  · rintro i d σ h2 hk ⟨rfl, x5, rfl⟩
    refine ⟨_, rfl, ?_⟩
    fail "mini x_decimal_told"
    rw [mulOk_r (by decide) (by decide)]
    fail "mini x_decimal_told"
    exact ⟨by first | trivial | rfl, _, by rw [show ((10 ^ i : Nat) : Int) * 10 = ((10 ^ (i + 1) : Nat) : Int) by rw [Nat.pow_succ]; omega]⟩
  · rintro σ h2 ⟨rfl, x5, rfl⟩
    rw [rngD_length, Int.toNat_natCast]
    fail "mini x_decimal_told"
    rw [len_TX (by have := o.few; omega), TX_cut, cutMid, show a + w - a = w by omega, c1, int_D aW nW (by omega), vW]
    fail "mini x_decimal_told"
    have nR : pad (k + 1) R ≠ [] := fun z => by rw [z] at lR; cases lR
    rw [m1, len_TX (by have := o.few; omega), show (some (((a + w : Nat) : Int) + 1)) = some ((a + w + 1 : Nat) : Int) from rfl, TX_cut, cutMid, show a + w + 1 + (k + 1) - (a + w + 1) = k + 1 by omega, c2, int_D aR nR (by omega), vR]
    fail "mini x_decimal_told"
    have et : (W : Int) * ((10 ^ (k + 1) : Nat) : Int) + (R : Int) = ((W * 10 ^ (k + 1) + R : Nat) : Int) := by rw [Int.natCast_add, Int.natCast_mul]
    rw [et]
    by_cases c : n < 0
    · have ea : a = 1 := by rw [← hsa]; unfold sgc; rw [if_pos c]; rfl
      rw [if_pos c, decide_eq_true (show (a : Int) = 1 by omega)]
      fail "mini x_decimal_told"
      rw [e_lowest ok, Rat.neg_divInt]
      exact .refl
    · have ea : a = 0 := by rw [← hsa]; unfold sgc; rw [if_neg c]; rfl
      rw [if_neg c, decide_eq_false (show ¬ (a : Int) = 1 by omega)]
      fail "mini x_decimal_told"
      rw [e_lowest ok]
      exact .refl

/-! reading a quotient's text; reading -/
open PySem.NumText (AllDigits digitsVal)
theorem okT_app {a b : List Nat} (ha : ∀ c ∈ a, c < 200) (hb : ∀ c ∈ b, c < 200) : ∀ c ∈ a ++ b, c < 200 := fun c hc => (List.mem_append.mp hc).elim (ha c) (hb c)
theorem okT_cons {x : Nat} {b : List Nat} (hx : x < 200) (hb : ∀ c ∈ b, c < 200) : ∀ c ∈ x :: b, c < 200 := fun c hc => by
  rcases List.mem_cons.mp hc with rfl | hc
  · exact hx
  · exact hb c hc
def P_qt : List D → D → Prop := fun ds r => ∃ (cs : List Nat) (a e : Nat), ds = [.str (TX cs), .int (a : Int), .int (e : Int)] ∧ (∃ q : Rat, QB q ∧ (∀ j, ¬ q.den ∣ 10 ^ j) ∧ cs = sgc q.num ++ (dg q.num.natAbs ++ (47 :: dg q.den)) ∧ a = (sgc q.num).length ∧ e = (sgc q.num).length + (dg q.num.natAbs).length) ∧ r = fr (rdQ cs)
theorem qt_uniq {ds : List D} {r r' : D} (a : P_qt ds r) (b : P_qt ds r') : r = r' := by
  obtain ⟨cs, i, j, rfl, _, rfl⟩ := a
  obtain ⟨cs2, i2, j2, e, _, rfl⟩ := b
  obtain ⟨e1, e2, e3⟩ := in3 e
  injection e1 with e1
  rw [TX_inj e1]
noncomputable def G_quotient_told : Gam := gamL [(n_common, d_common), (n_places_of, d_places_of), (n_digits_end, d_digits_end)] []
theorem cg_quotient_told_common {ds : List D} {h : Hm} : callG G_quotient_told n_common ds h = d_common ds h := rfl
theorem cg_quotient_told_places_of {ds : List D} {h : Hm} : callG G_quotient_told n_places_of ds h = d_places_of ds h := rfl
theorem cg_quotient_told_digits_end {ds : List D} {h : Hm} : callG G_quotient_told n_digits_end ds h = d_digits_end ds h := rfl
theorem N_quotient_told : c_quotient_told.N = (["text", "at", "end", "last", "top", "bottom"] : List Str) := rfl
noncomputable def d_quotient_told : List D → Hm → Res D := denT G_quotient_told c_quotient_told.N 3 b_quotient_told (TR P_qt)
theorem sp_quotient_told {ds : List D} {h : Hm} (hl : ds.length = 3) (w : wpB G_quotient_told b_quotient_told (startD c_quotient_told.N ds) h (PoT (TR P_qt) ds h)) : ∃ r h2, d_quotient_told ds h = .ok r h2 ∧ (TR P_qt) ds h r h2 := denT_ok hl w
theorem ub_quotient_told_7 {Γ : Gam} {σ : Sg} {h : Hm} {P : Po} : wpB Γ b_quotient_told_7 σ h P = wpB Γ (.cons .never .nil) σ h P := rfl
theorem ub_quotient_told_8 {Γ : Gam} {σ : Sg} {h : Hm} {P : Po} : wpB Γ b_quotient_told_8 σ h P = wpB Γ (.cons .never .nil) σ h P := rfl
theorem ub_quotient_told_9 {Γ : Gam} {σ : Sg} {h : Hm} {P : Po} : wpB Γ b_quotient_told_9 σ h P = wpB Γ (.cons .never .nil) σ h P := rfl
theorem ub_quotient_told_6 {Γ : Gam} {σ : Sg} {h : Hm} {P : Po} : wpB Γ b_quotient_told_6 σ h P = wpB Γ (.cons (.ret (.tup (.cons (.v 4) (.cons (.v 5) .nil)))) .nil) σ h P := rfl
theorem ub_quotient_told_5 {Γ : Gam} {σ : Sg} {h : Hm} {P : Po} : wpB Γ b_quotient_told_5 σ h P = wpB Γ (.cons (.ife (.bor (.cmp .gt (.call n_common (.cons (.bi .abs (.cons (.v 4) .nil)) (.cons (.v 5) .nil))) (.int 1)) (.notN (.call n_places_of (.cons (.v 5) .nil)))) b_quotient_told_9 .nil) b_quotient_told_6) σ h P := rfl
theorem ub_quotient_told_4 {Γ : Gam} {σ : Sg} {h : Hm} {P : Po} : wpB Γ b_quotient_told_4 σ h P = wpB Γ (.cons (.par 4 5 (.bi .int (.cons (.slice (.v 0) .none (.some (.v 2))) .nil)) (.bi .int (.cons (.slice (.v 0) (.some (.op2 .add (.v 2) (.int 1))) .none) .nil))) b_quotient_told_5) σ h P := rfl
theorem ub_quotient_told_3 {Γ : Gam} {σ : Sg} {h : Hm} {P : Po} : wpB Γ b_quotient_told_3 σ h P = wpB Γ (.cons (.ife (.bor (.cmp .lt (.v 3) (.bi .len (.cons (.v 0) .nil))) (.cmp .eq (.v 3) (.op2 .add (.v 2) (.int 1)))) b_quotient_told_8 .nil) b_quotient_told_4) σ h P := rfl
theorem ub_quotient_told_2 {Γ : Gam} {σ : Sg} {h : Hm} {P : Po} : wpB Γ b_quotient_told_2 σ h P = wpB Γ (.cons (.set 3 (.call n_digits_end (.cons (.v 0) (.cons (.op2 .add (.v 2) (.int 1)) .nil)))) b_quotient_told_3) σ h P := rfl
theorem ub_quotient_told {Γ : Gam} {σ : Sg} {h : Hm} {P : Po} : wpB Γ b_quotient_told σ h P = wpB Γ (.cons (.ife (.cmp .eq (.slice (.v 0) (.some (.op2 .add (.v 2) (.int 1))) (.some (.op2 .add (.v 2) (.int 2)))) (.str "0")) b_quotient_told_7 .nil) b_quotient_told_2) σ h P := rfl
local macro_rules | `(tactic| fail "mini u_quotient_told") => `(tactic| simp only [N_quotient_told, cg_quotient_told_common, cg_quotient_told_places_of, cg_quotient_told_digits_end, e_common, e_digits_end, opn_tup, opn_lst, opn_int, opn_str, opn_bl, opn_non, eq_self, ub_quotient_told_7, ub_quotient_told_8, ub_quotient_told_9, ub_quotient_told_6, ub_quotient_told_5, ub_quotient_told_4, ub_quotient_told_3, ub_quotient_told_2, ub_quotient_told])
local macro_rules | `(tactic| fail "mini x_quotient_told") => `(tactic| repeat (first | fail "mini fw" | fail "mini u_quotient_told" | fail "mini fxx"))
theorem e_quotient {q : Rat} {h : Hm} (b : QB q) (nn : ∀ j, ¬ q.den ∣ 10 ^ j) :
    d_quotient_told [.str (TX (sgc q.num ++ (dg q.num.natAbs ++ (47 :: dg q.den)))), .int ((sgc q.num).length : Int), .int (((sgc q.num).length + (dg q.num.natAbs).length : Nat) : Int)] h = .ok (fr (rdQ (sgc q.num ++ (dg q.num.natAbs ++ (47 :: dg q.den))))) h := by
  have t : P_qt [.str (TX (sgc q.num ++ (dg q.num.natAbs ++ (47 :: dg q.den)))), .int ((sgc q.num).length : Int), .int (((sgc q.num).length + (dg q.num.natAbs).length : Nat) : Int)] (fr (rdQ (sgc q.num ++ (dg q.num.natAbs ++ (47 :: dg q.den))))) := ⟨_, _, _, rfl, ⟨q, b, nn, rfl, rfl, rfl⟩, rfl⟩
  refine den_TR rfl (fun v' z => qt_uniq z t) t ?_
  have s := sgc_len q.num
  have p0 := q.den_pos
  have d1 := dg200 b.n
  have d2 := dg200 (n := q.den) (Nat.lt_trans b.d (Nat.pow_lt_pow_right (by decide) (by decide)))
  have rd : rdQ (sgc q.num ++ (dg q.num.natAbs ++ (47 :: dg q.den))) = q := rdQ_tx (.inr ⟨nn, by simp only [List.append_assoc, List.singleton_append]⟩)
  rw [rd]
  have o : OkT (sgc q.num ++ (dg q.num.natAbs ++ (47 :: dg q.den))) := ⟨by rw [List.length_append, List.length_append, List.length_cons]; omega, okT_app sgc_ok (okT_app dg_ok (okT_cons (by decide) dg_ok))⟩
  have hl : (sgc q.num ++ (dg q.num.natAbs ++ (47 :: dg q.den))).length = (sgc q.num).length + (dg q.num.natAbs).length + 1 + (dg q.den).length := by rw [List.length_append, List.length_append, List.length_cons]; omega
  have e1 : (sgc q.num ++ (dg q.num.natAbs ++ (47 :: dg q.den))).drop ((sgc q.num).length + (dg q.num.natAbs).length + 1) = dg q.den := by
    rw [Nat.add_assoc, ← List.drop_drop, List.drop_left, ← List.drop_drop, List.drop_left]
    rfl
  have e2 : (sgc q.num ++ (dg q.num.natAbs ++ (47 :: dg q.den))).take ((sgc q.num).length + (dg q.num.natAbs).length) = sgc q.num ++ dg q.num.natAbs := by
    rw [← List.append_assoc, ← List.length_append, List.take_left]
  have nn2 : nd (dg q.den) = (dg q.den).length := by
    have := nd_app (dg_all q.den) (b := []) (.inl rfl)
    rwa [List.append_nil] at this
  obtain ⟨c, r, ec, c1, c2⟩ := dg_head p0
  have ti : biD .int [.str (TX (sgc q.num ++ dg q.num.natAbs))] h = .ok (.int q.num) h := by
    unfold sgc
    by_cases k : q.num < 0
    · rw [if_pos k]
      show biD .int [.str (TX (45 :: dg q.num.natAbs))] h = _
      rw [int_N (dg_all _) (dg_ne _) (by omega), dg_val, show -(q.num.natAbs : Int) = q.num by omega]
    · rw [if_neg k, List.nil_append, int_D (dg_all _) (dg_ne _) (by omega), dg_val, show (q.num.natAbs : Int) = q.num by omega]
  have bi : biD .int [.str (TX (dg q.den))] h = .ok (.int (q.den : Int)) h := by rw [int_D (dg_all _) (dg_ne _) (by omega), dg_val]
  obtain ⟨rp, ep, zp⟩ := e_places p0 (Nat.lt_trans b.d (Nat.pow_lt_pow_right (by decide) (by decide))) h
  have rpn : rp = .non := by
    rcases zp with ⟨p, _, i⟩ | ⟨e, _⟩
    · exact absurd i.1 (nn p)
    · exact e
  subst rpn
  have g1 : Int.gcd (q.num.natAbs : Int) (q.den : Int) = 1 := by
    have : Int.gcd q.num (q.den : Int) = 1 := q.reduced
    rw [← this]
    simp [Int.gcd]
  have hw : 0 < (dg q.den).length := List.length_pos_iff.mpr (dg_ne _)
  generalize hcs : sgc q.num ++ (dg q.num.natAbs ++ (47 :: dg q.den)) = cs at *
  generalize hsa : (sgc q.num).length = a at *
  generalize hsw : (dg q.num.natAbs).length = w at *
  fail "mini x_quotient_told"
  rw [len_TX (by have := o.few; omega), show (some (((a + w : Nat) : Int) + 1)) = some ((a + w + 1 : Nat) : Int) from rfl, show (some (((a + w : Nat) : Int) + 2)) = some ((a + w + 2 : Nat) : Int) from rfl, TX_cut, cutMid, show a + w + 2 - (a + w + 1) = 1 by omega, (o.cut _ _).ok, e1, ec, txt_0, Res.guard_true]
  rw [show (c :: r).take 1 = [c] from rfl, decide_eq_false (fun z => by have := (List.cons.inj (TX_inj z)).1; omega)]
  fail "mini x_quotient_told"
  rw [show (((a + w : Nat) : Int) + 1) = ((a + w + 1 : Nat) : Int) from rfl, e_digits_end o, e1, nn2]
  fail "mini x_quotient_told"
  rw [len_TX (by have := o.few; omega), TX_len, hl, decide_eq_false (show ¬ ((a + w + 1 + (dg q.den).length : Nat) : Int) < ((a + w + 1 + (dg q.den).length : Nat) : Int) by omega)]
  fail "mini x_quotient_told"
  rw [decide_eq_false (show ¬ ((a + w + 1 + (dg q.den).length : Nat) : Int) = ((a + w : Nat) : Int) + 1 by omega)]
  fail "mini x_quotient_told"
  rw [len_TX (by have := o.few; omega), TX_cut, cutTo, e2, ti]
  fail "mini x_quotient_told"
  rw [len_TX (by have := o.few; omega), show (some (((a + w : Nat) : Int) + 1)) = some ((a + w + 1 : Nat) : Int) from rfl, TX_cut, cutFrom, e1, bi]
  fail "mini x_quotient_told"
  rw [abs_if, e_common (by omega) (by omega), g1]
  fail "mini x_quotient_told"
  rw [ep]
  fail "mini x_quotient_told"
  exact .refl

/-! reading -/
open PySem.NumText (AllDigits digitsVal)
def P_ft : List D → D → Prop := fun ds r => ∃ (cs : List Nat), ds = [.str (TX cs)] ∧ (∃ q : Rat, QB q ∧ IsTx q cs) ∧ r = fr (rdQ cs)
theorem ft_uniq {ds : List D} {r r' : D} (a : P_ft ds r) (b : P_ft ds r') : r = r' := by
  obtain ⟨cs, rfl, _, rfl⟩ := a
  obtain ⟨cs2, e, _, rfl⟩ := b
  have e := in1 e
  injection e with e
  rw [TX_inj e]
noncomputable def G_fraction_told : Gam := gamL [(n_digits_end, d_digits_end), (n_decimal_told, d_decimal_told), (n_quotient_told, d_quotient_told)] []
theorem cg_fraction_told_digits_end {ds : List D} {h : Hm} : callG G_fraction_told n_digits_end ds h = d_digits_end ds h := rfl
theorem cg_fraction_told_decimal_told {ds : List D} {h : Hm} : callG G_fraction_told n_decimal_told ds h = d_decimal_told ds h := rfl
theorem cg_fraction_told_quotient_told {ds : List D} {h : Hm} : callG G_fraction_told n_quotient_told ds h = d_quotient_told ds h := rfl
theorem N_fraction_told : c_fraction_told.N = (["text", "at", "end"] : List Str) := rfl
noncomputable def d_fraction_told : List D → Hm → Res D := denT G_fraction_told c_fraction_told.N 1 b_fraction_told (TR P_ft)
theorem sp_fraction_told {ds : List D} {h : Hm} (hl : ds.length = 1) (w : wpB G_fraction_told b_fraction_told (startD c_fraction_told.N ds) h (PoT (TR P_ft) ds h)) : ∃ r h2, d_fraction_told ds h = .ok r h2 ∧ (TR P_ft) ds h r h2 := denT_ok hl w
theorem ub_fraction_told_9 {Γ : Gam} {σ : Sg} {h : Hm} {P : Po} : wpB Γ b_fraction_told_9 σ h P = wpB Γ (.cons .never .nil) σ h P := rfl
theorem ub_fraction_told_10 {Γ : Gam} {σ : Sg} {h : Hm} {P : Po} : wpB Γ b_fraction_told_10 σ h P = wpB Γ (.cons .never .nil) σ h P := rfl
theorem ub_fraction_told_11 {Γ : Gam} {σ : Sg} {h : Hm} {P : Po} : wpB Γ b_fraction_told_11 σ h P = wpB Γ (.cons (.ret (.call n_decimal_told (.cons (.v 0) (.cons (.v 1) (.cons (.v 2) .nil))))) .nil) σ h P := rfl
theorem ub_fraction_told_12 {Γ : Gam} {σ : Sg} {h : Hm} {P : Po} : wpB Γ b_fraction_told_12 σ h P = wpB Γ (.cons (.ret (.call n_quotient_told (.cons (.v 0) (.cons (.v 1) (.cons (.v 2) .nil))))) .nil) σ h P := rfl
theorem ub_fraction_told_13 {Γ : Gam} {σ : Sg} {h : Hm} {P : Po} : wpB Γ b_fraction_told_13 σ h P = wpB Γ (.cons .never .nil) σ h P := rfl
theorem ub_fraction_told_8 {Γ : Gam} {σ : Sg} {h : Hm} {P : Po} : wpB Γ b_fraction_told_8 σ h P = wpB Γ (.cons (.ret (.tup (.cons (.bi .int (.cons (.v 0) .nil)) (.cons (.int 1) .nil)))) .nil) σ h P := rfl
theorem ub_fraction_told_7 {Γ : Gam} {σ : Sg} {h : Hm} {P : Po} : wpB Γ b_fraction_told_7 σ h P = wpB Γ (.cons (.ife (.bor (.cmp .lt (.v 2) (.bi .len (.cons (.v 0) .nil))) (.band (.cmp .eq (.v 1) (.int 1)) (.cmp .eq (.ix (.v 0) (.v 1)) (.str "0")))) b_fraction_told_13 .nil) b_fraction_told_8) σ h P := rfl
theorem ub_fraction_told_6 {Γ : Gam} {σ : Sg} {h : Hm} {P : Po} : wpB Γ b_fraction_told_6 σ h P = wpB Γ (.cons (.ife (.band (.cmp .eq (.slice (.v 0) (.some (.v 2)) (.some (.op2 .add (.v 2) (.int 1)))) (.str "/")) (.cmp .ne (.ix (.v 0) (.v 1)) (.str "0"))) b_fraction_told_12 .nil) b_fraction_told_7) σ h P := rfl
theorem ub_fraction_told_5 {Γ : Gam} {σ : Sg} {h : Hm} {P : Po} : wpB Γ b_fraction_told_5 σ h P = wpB Γ (.cons (.ife (.cmp .eq (.slice (.v 0) (.some (.v 2)) (.some (.op2 .add (.v 2) (.int 1)))) (.str ".")) b_fraction_told_11 .nil) b_fraction_told_6) σ h P := rfl
theorem ub_fraction_told_4 {Γ : Gam} {σ : Sg} {h : Hm} {P : Po} : wpB Γ b_fraction_told_4 σ h P = wpB Γ (.cons (.ife (.cmp .eq (.v 2) (.v 1)) b_fraction_told_10 .nil) b_fraction_told_5) σ h P := rfl
theorem ub_fraction_told_3 {Γ : Gam} {σ : Sg} {h : Hm} {P : Po} : wpB Γ b_fraction_told_3 σ h P = wpB Γ (.cons (.set 2 (.ifx (.cmp .eq (.slice (.v 0) (.some (.v 1)) (.some (.op2 .add (.v 1) (.int 1)))) (.str "0")) (.op2 .add (.v 1) (.int 1)) (.call n_digits_end (.cons (.v 0) (.cons (.v 1) .nil))))) b_fraction_told_4) σ h P := rfl
theorem ub_fraction_told_2 {Γ : Gam} {σ : Sg} {h : Hm} {P : Po} : wpB Γ b_fraction_told_2 σ h P = wpB Γ (.cons (.set 1 (.bi .int (.cons (.cmp .eq (.slice (.v 0) .none (.some (.int 1))) (.str "-")) .nil))) b_fraction_told_3) σ h P := rfl
theorem ub_fraction_told {Γ : Gam} {σ : Sg} {h : Hm} {P : Po} : wpB Γ b_fraction_told σ h P = wpB Γ (.cons (.ife (.bnot (.isi (.v 0) .str)) b_fraction_told_9 .nil) b_fraction_told_2) σ h P := rfl
local macro_rules | `(tactic| fail "mini u_fraction_told") => `(tactic| simp only [N_fraction_told, cg_fraction_told_digits_end, cg_fraction_told_decimal_told, cg_fraction_told_quotient_told, e_digits_end, opn_tup, opn_lst, opn_int, opn_str, opn_bl, opn_non, eq_self, ub_fraction_told_9, ub_fraction_told_10, ub_fraction_told_11, ub_fraction_told_12, ub_fraction_told_13, ub_fraction_told_8, ub_fraction_told_7, ub_fraction_told_6, ub_fraction_told_5, ub_fraction_told_4, ub_fraction_told_3, ub_fraction_told_2, ub_fraction_told])
local macro_rules | `(tactic| fail "mini x_fraction_told") => `(tactic| repeat (first | fail "mini fw" | fail "mini u_fraction_told" | fail "mini fxx"))
theorem told_pre {n : Int} {X : Nat} {tl cs : List Nat} {h : Hm} {Q : Po} (nt : NonD tl) (X6 : (dg X).length ≤ 300) (o : OkT cs) (ecs : cs = sgc n ++ (dg X ++ tl))
    (hQ : wpB G_fraction_told b_fraction_told_5 [some (.str (TX cs)), some (.int ((sgc n).length : Int)), some (.int (((sgc n).length + (dg X).length : Nat) : Int))] h Q) :
    wpB G_fraction_told b_fraction_told (startD c_fraction_told.N [.str (TX cs)]) h Q := by
  have s := sgc_len n
  have hw : 0 < (dg X).length := List.length_pos_iff.mpr (dg_ne _)
  obtain ⟨x, xs, ex⟩ := List.exists_cons_of_ne_nil (dg_ne X)
  have xr := (dg_all X) x (by rw [ex]; exact List.mem_cons_self)
  have hm : (TX (cs.take 1) = TX [45]) ↔ n < 0 := by
    rw [TX_eq, ecs]
    unfold sgc
    by_cases c : n < 0
    · rw [if_pos c]
      exact ⟨fun _ => c, fun _ => rfl⟩
    · rw [if_neg c, List.nil_append, ex]
      refine ⟨fun z => ?_, fun z => absurd z c⟩
      have := (List.cons.inj z).1
      omega
  have ha : (if TX (cs.take 1) = TX [45] then (1 : Int) else 0) = ((sgc n).length : Int) := by
    by_cases c : n < 0
    · rw [if_pos (hm.mpr c)]
      unfold sgc
      rw [if_pos c]
      rfl
    · rw [if_neg (fun z => c (hm.mp z))]
      unfold sgc
      rw [if_neg c]
      rfl
  have d1 : cs.drop (sgc n).length = dg X ++ tl := by rw [ecs, List.drop_left]
  have n1 : nd (dg X ++ tl) = (dg X).length := nd_app (dg_all X) nt
  have hz : (decide (TX [x] = TX [48]) = true → (dg X).length = 1) := fun z => by
    have z := (List.cons.inj (TX_inj (of_decide_eq_true z))).1
    rcases Nat.eq_zero_or_pos X with e | e
    · rw [e]; rfl
    · obtain ⟨c, r, ec, c1, c2⟩ := dg_head e
      rw [ex] at ec
      have := (List.cons.inj ec).1
      omega
  generalize hsa : (sgc n).length = a at *
  generalize hsw : (dg X).length = w at *
  generalize hB : b_fraction_told_5 = B at hQ
  fail "mini x_fraction_told"
  rw [len_TX (by have := o.few; omega), show (some (1 : Int)) = some ((1 : Nat) : Int) from rfl, TX_cut, cutTo, (show PyData.strOk (TX (cs.take 1)) = true from (o.cut 0 1).ok), txt_minus, Res.guard_true, ha]
  fail "mini x_fraction_told"
  rw [len_TX (by have := o.few; omega), show ((a : Int) + 1) = ((a + 1 : Nat) : Int) from rfl, TX_cut, cutMid, show a + 1 - a = 1 by omega, (o.cut a 1).ok, Res.guard_true, d1, txt_0]
  rw [show (dg X ++ tl).take 1 = [x] by rw [ex]; rfl]
  have go : (Res.ok (D.int ((a + w : Nat) : Int)) h).wp (KSet G_fraction_told 2 b_fraction_told_4 [some (D.str (TX cs)), some (D.int (a : Int)), none] Q) := by
    rw [k_set, ub_fraction_told_4, hB]
    fail "mini x_fraction_told"
    rw [decide_eq_false (show ¬ ((a + w : Nat) : Int) = (a : Int) by omega)]
    fail "mini x_fraction_told"
    exact hQ
  cases k : decide (TX [x] = TX [48])
  · rw [ifR_f, e_digits_end o, d1, n1]
    exact go
  · rw [ifR_t, ← hz k] at *
    exact go
theorem nonD_app {b : List Nat} {c : Nat} (h : isDg c = false) : NonD (c :: b) := .inr ⟨c, b, rfl, h⟩
theorem e_fraction_told {q : Rat} {cs : List Nat} {h : Hm} (b : QB q) (x : IsTx q cs) : d_fraction_told [.str (TX cs)] h = .ok (fr q) h := by
  have t : P_ft [.str (TX cs)] (fr (rdQ cs)) := ⟨cs, rfl, ⟨q, b, x⟩, rfl⟩
  have rq := rdQ_tx x
  rw [show fr q = fr (rdQ cs) by rw [rq]]
  refine den_TR rfl (fun v' z => ft_uniq z t) t ?_
  have s := sgc_len q.num
  have p0 := q.den_pos
  have d1 := dg200 b.n
  have d2 := dg200 (n := q.den) (Nat.lt_trans b.d (Nat.pow_lt_pow_right (by decide) (by decide)))
  have W6 : q.num.natAbs / q.den < 2 ^ 640 := Nat.lt_of_le_of_lt (Nat.div_le_self _ _) b.n
  have d3 := dg200 W6
  have cop : Nat.Coprime q.num.natAbs q.den := q.reduced
  have pos0 : q.num < 0 → ∃ c r, dg q.num.natAbs = c :: r ∧ 49 ≤ c ∧ c ≤ 57 := fun z => dg_head (by omega)
  rcases x with ⟨p, i, e⟩ | ⟨n, e⟩
  · have pf := i.few p0 b.d
    by_cases c : p = 0
    · subst c
      rw [if_pos rfl] at e
      have d_1 : q.den = 1 := Nat.dvd_one.mp i.1
      have e' : cs = sgc q.num ++ (dg q.num.natAbs ++ []) := by rw [e, List.append_nil]
      have o : OkT cs := by rw [e']; exact ⟨by rw [List.append_nil, List.length_append]; omega, okT_app sgc_ok (okT_app dg_ok (fun c hc => by cases hc))⟩
      refine told_pre (.inl rfl) (by omega) o e' ?_
      have hl : cs.length = (sgc q.num).length + (dg q.num.natAbs).length := by rw [e, List.length_append]
      have fin : biD .int [.str (TX cs)] h = .ok (.int q.num) h := by
        rw [e]
        unfold sgc
        by_cases k : q.num < 0
        · rw [if_pos k]
          show biD .int [.str (TX (45 :: dg q.num.natAbs))] h = _
          rw [int_N (dg_all _) (dg_ne _) (by omega), dg_val, show -(q.num.natAbs : Int) = q.num by omega]
        · rw [if_neg k, List.nil_append, int_D (dg_all _) (dg_ne _) (by omega), dg_val, show (q.num.natAbs : Int) = q.num by omega]
      have rf : D.tup [.int q.num, .int 1] = fr (rdQ cs) := by
        rw [rq, fr_eq, d_1]
        rfl
      have at0' : q.num < 0 → ∃ c, cs[1]? = some c ∧ 49 ≤ c ∧ c ≤ 57 := fun z => by
        obtain ⟨c, r, e1, e2⟩ := pos0 z
        refine ⟨c, ?_, e2⟩
        rw [e, e1]
        unfold sgc
        rw [if_pos z]
        rfl
      have sa : ((sgc q.num).length = 1 ∧ q.num < 0) ∨ (sgc q.num).length = 0 := by
        unfold sgc
        by_cases k : q.num < 0
        · rw [if_pos k]; exact .inl ⟨rfl, k⟩
        · rw [if_neg k]; exact .inr rfl
      rw [← rf]
      generalize hsa : (sgc q.num).length = a at *
      generalize hsw : (dg q.num.natAbs).length = w at *
      have dr : (cs.drop (a + w)).take 1 = [] := by rw [List.drop_of_length_le (by omega)]; rfl
      fail "mini x_fraction_told"
      rw [len_TX (by have := o.few; omega), show (((a + w : Nat) : Int) + 1) = ((a + w + 1 : Nat) : Int) from rfl, TX_cut, cutMid, show a + w + 1 - (a + w) = 1 by omega, (o.cut (a + w) 1).ok, Res.guard_true, dr, txt_point, decide_eq_false (fun z => by cases TX_inj z)]
      fail "mini x_fraction_told"
      rw [len_TX (by have := o.few; omega), show (((a + w : Nat) : Int) + 1) = ((a + w + 1 : Nat) : Int) from rfl, TX_cut, cutMid, show a + w + 1 - (a + w) = 1 by omega, (o.cut (a + w) 1).ok, Res.guard_true, dr, txt_stroke, decide_eq_false (fun z => by cases TX_inj z)]
      fail "mini x_fraction_told"
      rw [len_TX (by have := o.few; omega), TX_len, hl, decide_eq_false (show ¬ ((a + w : Nat) : Int) < ((a + w : Nat) : Int) by omega)]
      fail "mini x_fraction_told"
      rcases sa with ⟨a1, k⟩ | a0
      · obtain ⟨c, ec, c1, c2⟩ := at0' k
        rw [decide_eq_true (show (a : Int) = 1 by omega)]
        fail "mini x_fraction_told"
        rw [a1, ix_TX o ec]
        fail "mini x_fraction_told"
        rw [(okT_1 (c := c) (by omega)).ok, Res.guard_true, txt_0, decide_eq_false (fun z => by have := (List.cons.inj (TX_inj z)).1; omega)]
        fail "mini x_fraction_told"
        rw [fin]
        fail "mini x_fraction_told"
        exact .refl
      · rw [decide_eq_false (show ¬ (a : Int) = 1 by omega)]
        fail "mini x_fraction_told"
        rw [fin]
        fail "mini x_fraction_told"
        exact .refl
    · rw [if_neg c] at e
      obtain ⟨r1, r2, r3⟩ := dec_facts p0 cop i c
      have ed := fun h => e_decimal (h := h) (n := q.num) (W := q.num.natAbs / q.den) c (by omega) r1 r2 W6
      have e' : cs = sgc q.num ++ (dg (q.num.natAbs / q.den) ++ (46 :: pad p (q.num.natAbs % q.den * 10 ^ p / q.den))) := by rw [e]; simp only [List.append_assoc, List.singleton_append]
      rw [← e'] at ed
      have o : OkT cs := by rw [e']; exact ⟨by rw [List.length_append, List.length_append, List.length_cons, pad_len]; omega, okT_app sgc_ok (okT_app dg_ok (okT_cons (by decide) pad_ok))⟩
      refine told_pre (nonD_app (by decide)) (by omega) o e' ?_
      have dr : (cs.drop ((sgc q.num).length + (dg (q.num.natAbs / q.den)).length)).take 1 = [46] := by
        rw [e', ← List.drop_drop, List.drop_left, List.drop_left]
        rfl
      generalize hsa : (sgc q.num).length = a at *
      generalize hsw : (dg (q.num.natAbs / q.den)).length = w at *
      fail "mini x_fraction_told"
      rw [len_TX (by have := o.few; omega), show (((a + w : Nat) : Int) + 1) = ((a + w + 1 : Nat) : Int) from rfl, TX_cut, cutMid, show a + w + 1 - (a + w) = 1 by omega, (o.cut (a + w) 1).ok, Res.guard_true, dr, txt_point, decide_eq_true rfl]
      fail "mini x_fraction_told"
      rw [ed]
      exact .refl
  · have e' : cs = sgc q.num ++ (dg q.num.natAbs ++ (47 :: dg q.den)) := by rw [e]; simp only [List.append_assoc, List.singleton_append]
    have eq' := fun h => e_quotient (h := h) b n
    rw [← e'] at eq'
    have n0 : q.num ≠ 0 := fun z => n 0 (by
      have : q.den = 1 := by
        have c := cop
        rw [z] at c
        exact (Nat.coprime_zero_left _).mp c
      rw [this]
      exact Nat.one_dvd _)
    obtain ⟨x, xs, ex, x1, x2⟩ := dg_head (n := q.num.natAbs) (by omega)
    have o : OkT cs := by rw [e']; exact ⟨by rw [List.length_append, List.length_append, List.length_cons]; omega, okT_app sgc_ok (okT_app dg_ok (okT_cons (by decide) dg_ok))⟩
    refine told_pre (nonD_app (by decide)) (by omega) o e' ?_
    have dr : (cs.drop ((sgc q.num).length + (dg q.num.natAbs).length)).take 1 = [47] := by
      rw [e', ← List.drop_drop, List.drop_left, List.drop_left]
      rfl
    have at0' : cs[(sgc q.num).length]? = some x := by
      rw [e', List.getElem?_append_right (Nat.le_refl _), Nat.sub_self, ex]
      rfl
    generalize hsa : (sgc q.num).length = a at *
    generalize hsw : (dg q.num.natAbs).length = w at *
    fail "mini x_fraction_told"
    rw [len_TX (by have := o.few; omega), show (((a + w : Nat) : Int) + 1) = ((a + w + 1 : Nat) : Int) from rfl, TX_cut, cutMid, show a + w + 1 - (a + w) = 1 by omega, (o.cut (a + w) 1).ok, Res.guard_true, dr, txt_point, decide_eq_false (fun z => by cases TX_inj z)]
    fail "mini x_fraction_told"
    rw [len_TX (by have := o.few; omega), show (((a + w : Nat) : Int) + 1) = ((a + w + 1 : Nat) : Int) from rfl, TX_cut, cutMid, show a + w + 1 - (a + w) = 1 by omega, (o.cut (a + w) 1).ok, Res.guard_true, dr, txt_stroke, decide_eq_true rfl]
    fail "mini x_fraction_told"
    rw [ix_TX o at0']
    fail "mini x_fraction_told"
    rw [(okT_1 (c := x) (by omega)).ok, Res.guard_true, txt_0, decide_eq_false (fun z => by have := (List.cons.inj (TX_inj z)).1; omega)]
    fail "mini x_fraction_told"
    rw [eq']
    exact .refl

/-! numbers drawn for texts -/
def T_drawn : Tell := fun ds h r h' => ∀ (b : Br) (t : Hm), ds = [.ref 1] → h = hb b t → b.ok → ∃ (b' : Br) (q : Rat), r = fr q ∧ h' = hb b' t ∧ b'.ok ∧ QB q
noncomputable def G_law_drawn : Gam := gamL [(n_law_drop, d_law_drop), (n_law_low, d_law_low), (n_law_number, d_law_number)] []
theorem cg_law_drawn_law_drop {ds : List D} {h : Hm} : callG G_law_drawn n_law_drop ds h = d_law_drop ds h := rfl
theorem cg_law_drawn_law_low {ds : List D} {h : Hm} : callG G_law_drawn n_law_low ds h = d_law_low ds h := rfl
theorem cg_law_drawn_law_number {ds : List D} {h : Hm} : callG G_law_drawn n_law_number ds h = d_law_number ds h := rfl
theorem N_law_drawn : c_law_drawn.N = (["spring", "way", "bound", "turn", "bottom"] : List Str) := rfl
noncomputable def d_law_drawn : List D → Hm → Res D := denT G_law_drawn c_law_drawn.N 1 b_law_drawn T_drawn
theorem sp_law_drawn {ds : List D} {h : Hm} (hl : ds.length = 1) (w : wpB G_law_drawn b_law_drawn (startD c_law_drawn.N ds) h (PoT T_drawn ds h)) : ∃ r h2, d_law_drawn ds h = .ok r h2 ∧ T_drawn ds h r h2 := denT_ok hl w
theorem ub_law_drawn_9 {Γ : Gam} {σ : Sg} {h : Hm} {P : Po} : wpB Γ b_law_drawn_9 σ h P = wpB Γ (.cons (.set 2 (.op2 .mul (.v 2) (.op2 .pow (.int 10) (.int 63)))) .nil) σ h P := rfl
theorem ub_law_drawn_8 {Γ : Gam} {σ : Sg} {h : Hm} {P : Po} : wpB Γ b_law_drawn_8 σ h P = wpB Γ (.cons (.ret (.call n_law_low (.cons (.op2 .sub (.call n_law_drop (.cons (.v 0) (.cons (.v 2) .nil))) (.op2 .fdiv (.v 2) (.int 2))) (.cons (.op2 .add (.int 1) (.call n_law_drop (.cons (.v 0) (.cons (.ix (.lst (.cons (.op2 .pow (.int 10) (.int 60)) (.cons (.int 1) .nil))) (.call n_law_drop (.cons (.v 0) (.cons (.int 2) .nil)))) .nil)))) .nil)))) .nil) σ h P := rfl
theorem ub_law_drawn_7 {Γ : Gam} {σ : Sg} {h : Hm} {P : Po} : wpB Γ b_law_drawn_7 σ h P = wpB Γ (.cons (.for_ (.v 3) (.rng1 (.int 2)) b_law_drawn_9) b_law_drawn_8) σ h P := rfl
theorem ub_law_drawn_6 {Γ : Gam} {σ : Sg} {h : Hm} {P : Po} : wpB Γ b_law_drawn_6 σ h P = wpB Γ (.cons (.set 2 (.op2 .pow (.int 10) (.int 64))) b_law_drawn_7) σ h P := rfl
theorem ub_law_drawn_13 {Γ : Gam} {σ : Sg} {h : Hm} {P : Po} : wpB Γ b_law_drawn_13 σ h P = wpB Γ (.cons (.set 4 (.op2 .mul (.v 4) (.ix (.lst (.cons (.int 2) (.cons (.int 5) (.cons (.int 10) .nil)))) (.call n_law_drop (.cons (.v 0) (.cons (.int 3) .nil)))))) .nil) σ h P := rfl
theorem ub_law_drawn_12 {Γ : Gam} {σ : Sg} {h : Hm} {P : Po} : wpB Γ b_law_drawn_12 σ h P = wpB Γ (.cons (.ret (.call n_law_low (.cons (.op2 .sub (.call n_law_drop (.cons (.v 0) (.cons (.op2 .pow (.int 10) (.int 50)) .nil))) (.op2 .pow (.int 10) (.int 49))) (.cons (.v 4) .nil)))) .nil) σ h P := rfl
theorem ub_law_drawn_11 {Γ : Gam} {σ : Sg} {h : Hm} {P : Po} : wpB Γ b_law_drawn_11 σ h P = wpB Γ (.cons (.for_ (.v 3) (.rng1 (.call n_law_drop (.cons (.v 0) (.cons (.int 40) .nil)))) b_law_drawn_13) b_law_drawn_12) σ h P := rfl
theorem ub_law_drawn_10 {Γ : Gam} {σ : Sg} {h : Hm} {P : Po} : wpB Γ b_law_drawn_10 σ h P = wpB Γ (.cons (.set 4 (.int 1)) b_law_drawn_11) σ h P := rfl
theorem ub_law_drawn_14 {Γ : Gam} {σ : Sg} {h : Hm} {P : Po} : wpB Γ b_law_drawn_14 σ h P = wpB Γ (.cons (.ret (.call n_law_low (.cons (.op2 .sub (.call n_law_drop (.cons (.v 0) (.cons (.op2 .pow (.int 10) (.int 40)) .nil))) (.op2 .pow (.int 10) (.int 39))) (.cons (.op2 .add (.int 1) (.call n_law_drop (.cons (.v 0) (.cons (.op2 .pow (.int 10) (.int 20)) .nil)))) .nil)))) .nil) σ h P := rfl
theorem ub_law_drawn_5 {Γ : Gam} {σ : Sg} {h : Hm} {P : Po} : wpB Γ b_law_drawn_5 σ h P = wpB Γ (.cons (.ret (.call n_law_number (.cons (.v 0) .nil))) .nil) σ h P := rfl
theorem ub_law_drawn_4 {Γ : Gam} {σ : Sg} {h : Hm} {P : Po} : wpB Γ b_law_drawn_4 σ h P = wpB Γ (.cons (.ife (.cmp .eq (.v 1) (.int 1)) b_law_drawn_14 .nil) b_law_drawn_5) σ h P := rfl
theorem ub_law_drawn_3 {Γ : Gam} {σ : Sg} {h : Hm} {P : Po} : wpB Γ b_law_drawn_3 σ h P = wpB Γ (.cons (.ife (.cmp .eq (.v 1) (.int 0)) b_law_drawn_10 .nil) b_law_drawn_4) σ h P := rfl
theorem ub_law_drawn_2 {Γ : Gam} {σ : Sg} {h : Hm} {P : Po} : wpB Γ b_law_drawn_2 σ h P = wpB Γ (.cons (.ife (.cmp .eq (.v 1) (.int 5)) b_law_drawn_6 .nil) b_law_drawn_3) σ h P := rfl
theorem ub_law_drawn {Γ : Gam} {σ : Sg} {h : Hm} {P : Po} : wpB Γ b_law_drawn σ h P = wpB Γ (.cons (.set 1 (.call n_law_drop (.cons (.v 0) (.cons (.int 6) .nil)))) b_law_drawn_2) σ h P := rfl
local macro_rules | `(tactic| fail "mini u_law_drawn") => `(tactic| simp only [N_law_drawn, cg_law_drawn_law_drop, cg_law_drawn_law_low, cg_law_drawn_law_number, e_law_low, opn_tup, opn_lst, opn_int, opn_str, opn_bl, opn_non, eq_self, ub_law_drawn_9, ub_law_drawn_8, ub_law_drawn_7, ub_law_drawn_6, ub_law_drawn_13, ub_law_drawn_12, ub_law_drawn_11, ub_law_drawn_10, ub_law_drawn_14, ub_law_drawn_5, ub_law_drawn_4, ub_law_drawn_3, ub_law_drawn_2, ub_law_drawn])
local macro_rules | `(tactic| fail "mini x_law_drawn") => `(tactic| repeat (first | fail "mini fw" | fail "mini u_law_drawn" | fail "mini fxx"))
def DrawQ (t : Hm) (Q : Po) : Prop := ∀ (b : Br) (q : Rat), b.ok → QB q → Q.rt (fr q) (hb b t)
theorem drawn_end {b : Br} {t : Hm} : DrawQ t (PoT T_drawn [.ref 1] (hb b t)) := by
  intro b1 q o1 bq
  refine po_rt ?_
  intro b2 t2 _ e2 _
  obtain ⟨rfl, rfl⟩ := hb_inj e2
  exact ⟨b1, q, rfl, rfl, o1, bq⟩
theorem QB.mk' {t b : Int} (h0 : 0 < b) (h1 : t.natAbs < 2 ^ 640) (h2 : b.natAbs < 2 ^ 210) : QB (Rat.divInt t b) ∧ okDen b = true := by
  refine ⟨⟨(divInt_bd (n := 640) (by omega) h1 (Nat.lt_trans h2 (Nat.pow_lt_pow_right (by decide) (by decide)))).1, ?_⟩, okDen_bd (n := 210) (by omega) h2 (by decide) (by decide)⟩
  rw [Rat.den_divInt, if_neg (by omega)]
  exact Nat.lt_of_le_of_lt (Nat.div_le_self _ _) h2
theorem p190 : (10 : Nat) ^ 190 < 2 ^ 640 := by decide +kernel
theorem p60 : (10 : Nat) ^ 60 < 2 ^ 209 := by decide +kernel
theorem pw {k n : Nat} (h : k ≤ n) : (10 : Nat) ^ k ≤ 10 ^ n := Nat.pow_le_pow_right (by decide) h
theorem dv10 {k : Nat} (h : k ≤ 190) : 0 < 10 ^ k ∧ divOk ((10 ^ k : Nat) : Int) = true :=
  ⟨Nat.pow_pos (by decide), dvN (Nat.pow_pos (by decide)) (Nat.lt_trans (Nat.lt_of_le_of_lt (pw h) p190) (Nat.pow_lt_pow_right (by decide) (by decide)))⟩
theorem ten_i : ∀ (k : Nat), (10 : Int) ^ Int.toNat (k : Int) = ((10 ^ k : Nat) : Int) := fun k => by
  rw [Int.toNat_natCast, Int.natCast_pow]
  rfl
theorem drawn_5 {b : Br} {t : Hm} {w : D} {x2 x3 x4 : Option D} {Q : Po} (o : b.ok) (fin : DrawQ t Q) :
    wpB G_law_drawn b_law_drawn_6 [some (.ref 1), some w, x2, x3, x4] (hb b t) Q := by
  have e64 := ten_i 64
  have e63 := ten_i 63
  have e60 := ten_i 60
  rw [show ((64 : Nat) : Int) = 64 from rfl] at e64
  rw [show ((63 : Nat) : Int) = 63 from rfl] at e63
  rw [show ((60 : Nat) : Int) = 60 from rfl] at e60
  fail "mini x_law_drawn"
  rw [show powOk 10 64 = true by decide +kernel, e64]
  fail "mini x_law_drawn"
  rw [show smallI 2 = true from smallI_mk (by decide) (by decide)]
  refine L_for (fun i σ h2 => h2 = hb b t ∧ ∃ x3, σ = [some (.ref 1), some w, some (.int ((10 ^ (64 + 63 * i) : Nat) : Int)), x3, x4]) ⟨rfl, _, rfl⟩ ?_ ?_
  · rintro i d σ h2 hi ⟨rfl, y3, rfl⟩
    have i2 : i < 2 := by
      have := (List.getElem?_eq_some_iff.mp hi).1
      rw [rngD_length] at this
      exact this
    refine ⟨_, rfl, ?_⟩
    fail "mini x_law_drawn"
    rw [show powOk 10 63 = true by decide +kernel, e63]
    fail "mini x_law_drawn"
    rw [mulOk_bd (n := 640) (m := 640) (by rw [Int.natAbs_natCast]; exact Nat.lt_of_le_of_lt (pw (by omega)) p190) (by rw [Int.natAbs_natCast]; exact Nat.lt_of_le_of_lt (pw (by omega)) p190) (by decide) (by decide) (by decide)]
    fail "mini x_law_drawn"
    exact ⟨by first | trivial | rfl, _, by rw [← Int.natCast_mul, ← Nat.pow_add, show 64 + 63 * i + 63 = 64 + 63 * (i + 1) by omega]⟩
  · rintro σ h2 ⟨rfl, y3, rfl⟩
    rw [rngD_length, show 64 + 63 * Int.toNat 2 = 190 from rfl]
    obtain ⟨q0, q1⟩ := dv10 (k := 190) (by decide)
    obtain ⟨r0, r1⟩ := dv10 (k := 60) (by decide)
    have z60 := p60
    have z190 := p190
    generalize hA : (10 : Nat) ^ 190 = A at *
    generalize hC : (10 : Nat) ^ 60 = C at *
    fail "mini x_law_drawn"
    obtain ⟨n, b1, e1, o1, hn⟩ := n_dropB (t := t) (A : Int) o (by omega) q1
    rw [e1]
    fail "mini x_law_drawn"
    rw [show (A : Int).fdiv 2 = ((A / 2 : Nat) : Int) from fdiv_nat A 2]
    rw [show powOk 10 60 = true by decide +kernel, e60]
    fail "mini x_law_drawn"
    obtain ⟨k, b2, e2, o2, hk⟩ := n_drop (t := t) 2 o1 (by omega) (by omega)
    rw [e2]
    fail "mini x_law_drawn"
    obtain ⟨d, ed, d0, d1, d2⟩ : ∃ d : Nat, atI [D.int (C : Int), D.int 1] (k : Int) = some (.int (d : Int)) ∧ 0 < d ∧ d ≤ C ∧ divOk (d : Int) = true := by
      obtain rfl | rfl : k = 0 ∨ k = 1 := by omega
      · exact ⟨C, at0 _ _, r0, Nat.le_refl _, r1⟩
      · exact ⟨1, at1 _ _ _, by decide, r0, by decide⟩
    rw [ed]
    fail "mini x_law_drawn"
    obtain ⟨m, b3, e3, o3, hm⟩ := n_dropB (t := t) (d : Int) o2 (by omega) d2
    rw [e3]
    fail "mini x_law_drawn"
    obtain ⟨z1, z2⟩ := QB.mk' (t := (n : Int) - ((A / 2 : Nat) : Int)) (b := 1 + (m : Int)) (by omega) (by omega) (by
      have : (2 : Nat) ^ 209 < 2 ^ 210 := Nat.pow_lt_pow_right (by decide) (by decide)
      omega)
    rw [e_law_low z2]
    fail "mini x_law_drawn"
    exact fin b3 _ o3 z1
theorem drawn_0 {b : Br} {t : Hm} {w : D} {x2 x3 x4 : Option D} {Q : Po} (o : b.ok) (fin : DrawQ t Q) :
    wpB G_law_drawn b_law_drawn_10 [some (.ref 1), some w, x2, x3, x4] (hb b t) Q := by
  have e50 := ten_i 50
  have e49 := ten_i 49
  rw [show ((50 : Nat) : Int) = 50 from rfl] at e50
  rw [show ((49 : Nat) : Int) = 49 from rfl] at e49
  fail "mini x_law_drawn"
  obtain ⟨m, b1, e1, o1, hm⟩ := n_drop (t := t) 40 o (by omega) (by omega)
  rw [e1]
  fail "mini x_law_drawn"
  rw [show smallI (m : Int) = true from smallI_mk (by omega) (by omega)]
  refine L_for (fun i σ h2 => ∃ (b' : Br) (B : Nat) (x3 : Option D), σ = [some (.ref 1), some w, x2, x3, some (.int (B : Int))] ∧ h2 = hb b' t ∧ b'.ok ∧ 0 < B ∧ B ≤ 10 ^ i) ⟨b1, 1, _, rfl, rfl, o1, by decide, by decide⟩ ?_ ?_
  · rintro i d σ h2 hi ⟨b2, B, y3, rfl, rfl, o2, B0, B1⟩
    have i2 : i < m := by
      have := (List.getElem?_eq_some_iff.mp hi).1
      rw [rngD_length, Int.toNat_natCast] at this
      exact this
    refine ⟨_, rfl, ?_⟩
    fail "mini x_law_drawn"
    obtain ⟨k, b3, e3, o3, hk⟩ := n_drop (t := t) 3 o2 (by omega) (by omega)
    rw [e3]
    fail "mini x_law_drawn"
    obtain ⟨c, ec, c0, c1⟩ : ∃ c : Nat, atI [D.int 2, D.int 5, D.int 10] (k : Int) = some (.int (c : Int)) ∧ 0 < c ∧ c ≤ 10 := by
      obtain rfl | rfl | rfl : k = 0 ∨ k = 1 ∨ k = 2 := by omega
      · exact ⟨2, at0 _ _, by decide, by decide⟩
      · exact ⟨5, at1 _ _ _, by decide, by decide⟩
      · exact ⟨10, at2 _ _ _ _, by decide, by decide⟩
    rw [ec]
    fail "mini x_law_drawn"
    rw [mulOk_r (by omega) (by omega)]
    fail "mini x_law_drawn"
    refine ⟨b3, B * c, _, by rw [Int.natCast_mul], rfl, o3, Nat.mul_pos B0 c0, ?_⟩
    rw [Nat.pow_succ]
    exact Nat.mul_le_mul B1 c1
  · rintro σ h2 ⟨b2, B, y3, rfl, rfl, o2, B0, B1⟩
    rw [rngD_length, Int.toNat_natCast] at B1
    have B2 : B < 2 ^ 210 := Nat.lt_of_le_of_lt (Nat.le_trans B1 (pw (show m ≤ 60 by omega))) (Nat.lt_trans p60 (Nat.pow_lt_pow_right (by decide) (by decide)))
    fail "mini x_law_drawn"
    rw [show powOk 10 50 = true by decide +kernel, e50, show powOk 10 49 = true by decide +kernel, e49]
    fail "mini x_law_drawn"
    obtain ⟨q0, q1⟩ := dv10 (k := 50) (by decide)
    have z50 : (10 : Nat) ^ 50 < 2 ^ 640 := Nat.lt_of_le_of_lt (pw (by decide)) p190
    have z49 : (10 : Nat) ^ 49 ≤ 10 ^ 50 := pw (by decide)
    generalize (10 : Nat) ^ 50 = A at *
    generalize (10 : Nat) ^ 49 = C at *
    obtain ⟨n, b3, e3, o3, hn⟩ := n_dropB (t := t) (A : Int) o2 (by omega) q1
    rw [e3]
    fail "mini x_law_drawn"
    obtain ⟨z1, z2⟩ := QB.mk' (t := (n : Int) - (C : Int)) (b := (B : Int)) (by omega) (by omega) (by omega)
    rw [e_law_low z2]
    fail "mini x_law_drawn"
    exact fin b3 _ o3 z1
theorem drawn_1 {b : Br} {t : Hm} {w : D} {x2 x3 x4 : Option D} {Q : Po} (o : b.ok) (fin : DrawQ t Q) :
    wpB G_law_drawn b_law_drawn_14 [some (.ref 1), some w, x2, x3, x4] (hb b t) Q := by
  have e40 := ten_i 40
  have e39 := ten_i 39
  have e20 := ten_i 20
  rw [show ((40 : Nat) : Int) = 40 from rfl] at e40
  rw [show ((39 : Nat) : Int) = 39 from rfl] at e39
  rw [show ((20 : Nat) : Int) = 20 from rfl] at e20
  obtain ⟨q0, q1⟩ := dv10 (k := 40) (by decide)
  obtain ⟨r0, r1⟩ := dv10 (k := 20) (by decide)
  have z40 : (10 : Nat) ^ 40 < 2 ^ 640 := Nat.lt_of_le_of_lt (pw (by decide)) p190
  have z20 : (10 : Nat) ^ 20 < 2 ^ 209 := Nat.lt_of_le_of_lt (pw (by decide)) p60
  have z39 : (10 : Nat) ^ 39 ≤ 10 ^ 40 := pw (by decide)
  have z210 : (2 : Nat) ^ 209 < 2 ^ 210 := Nat.pow_lt_pow_right (by decide) (by decide)
  generalize (10 : Nat) ^ 40 = A at *
  generalize (10 : Nat) ^ 39 = C at *
  generalize (10 : Nat) ^ 20 = F at *
  fail "mini x_law_drawn"
  rw [show powOk 10 40 = true by decide +kernel, e40, show powOk 10 39 = true by decide +kernel, e39]
  fail "mini x_law_drawn"
  obtain ⟨n, b1, e1, o1, hn⟩ := n_dropB (t := t) (A : Int) o (by omega) q1
  rw [e1]
  fail "mini x_law_drawn"
  rw [show powOk 10 20 = true by decide +kernel, e20]
  fail "mini x_law_drawn"
  obtain ⟨m, b2, e2, o2, hm⟩ := n_dropB (t := t) (F : Int) o1 (by omega) r1
  rw [e2]
  fail "mini x_law_drawn"
  obtain ⟨z1, z2⟩ := QB.mk' (t := (n : Int) - (C : Int)) (b := 1 + (m : Int)) (by omega) (by omega) (by omega)
  rw [e_law_low z2]
  fail "mini x_law_drawn"
  exact fin b2 _ o2 z1
theorem s_drawn {b : Br} {t : Hm} (o : b.ok) : ∃ (q : Rat) (b' : Br), d_law_drawn [.ref 1] (hb b t) = .ok (fr q) (hb b' t) ∧ b'.ok ∧ QB q := by
  have w : wpB G_law_drawn b_law_drawn (startD c_law_drawn.N [.ref 1]) (hb b t) (PoT T_drawn [.ref 1] (hb b t)) := by
    have fin : DrawQ t (PoT T_drawn [.ref 1] (hb b t)) := drawn_end
    have fin' : ∀ B, DrawQ t ((PoT T_drawn [.ref 1] (hb b t)).seq G_law_drawn B) := fun B b q o bq => fin b q o bq
    fail "mini x_law_drawn"
    obtain ⟨k, b1, e1, o1, hk⟩ := n_drop (t := t) 6 o (by omega) (by omega)
    rw [e1]
    fail "mini x_law_drawn"
    by_cases c5 : (k : Int) = 5
    · rw [decide_eq_true c5, k_ifT]
      exact drawn_5 o1 (fin' _)
    · rw [decide_eq_false c5]
      fail "mini x_law_drawn"
      by_cases c0 : (k : Int) = 0
      · rw [decide_eq_true c0, k_ifT]
        exact drawn_0 o1 (fin' _)
      · rw [decide_eq_false c0]
        fail "mini x_law_drawn"
        by_cases c1 : (k : Int) = 1
        · rw [decide_eq_true c1, k_ifT]
          exact drawn_1 o1 (fin' _)
        · rw [decide_eq_false c1]
          fail "mini x_law_drawn"
          obtain ⟨q, b2, e2, o2, bq⟩ := s_number (t := t) o1
          rw [e2]
          fail "mini x_law_drawn"
          exact fin b2 q o2 ⟨Nat.lt_of_lt_of_le bq.1 (Nat.pow_le_pow_right (by decide) (by decide)), Nat.lt_of_lt_of_le bq.2 (Nat.pow_le_pow_right (by decide) (by decide))⟩
  obtain ⟨r, h2, e, T⟩ := sp_law_drawn rfl w
  obtain ⟨b', q, t1, t2, t3, t4⟩ := T b t rfl rfl o
  exact ⟨q, b', by rw [e, t1, t2], t3, t4⟩

/-! the law (k02) -/
theorem alike_ok {d : D} {k : Nat} {h : Hm} (p : plainD k d = true) (hk : k ≤ 8) : d_law_alike 9 [d, d] h = .ok (.bl true) h := by
  have up : ∀ m, plainD (k + m) d = true := fun m => by
    induction m with
    | zero => exact p
    | succ m ih => exact plain_mono ih
  have := up (8 - k)
  rw [show k + (8 - k) = 8 by omega] at this
  exact e_law_alike 8 d (by decide) this
theorem fr_plain (q : Rat) : plainD 1 (fr q) = true := plain_tup (by simp) (by simp only [List.all_cons, List.all_nil, plain_int, Bool.and_self])
theorem IsTx.ok {q : Rat} {cs : List Nat} (b : QB q) (x : IsTx q cs) : OkT cs := by
  refine ⟨by have := x.len b; omega, ?_⟩
  rcases x with ⟨p, i, e⟩ | ⟨n, e⟩
  · rw [e]
    split
    · exact okT_app sgc_ok dg_ok
    · exact okT_app (okT_app (okT_app sgc_ok dg_ok) (okT_cons (by decide) (fun c hc => by cases hc))) pad_ok
  · rw [e]
    exact okT_app (okT_app (okT_app sgc_ok dg_ok) (okT_cons (by decide) (fun c hc => by cases hc))) dg_ok
theorem look_put {z : Str} {d : D} : ∀ {ks : List Str} {ds : List D} {x : Str} {d' : D}, ks.length = ds.length → lookD (putKs ks z) (putVs ks ds z d) x = some d' → (x = z ∧ d' = d) ∨ lookD ks ds x = some d' := by
  have m : ∀ {ks : List Str} {ds : List D} {x : Str} {d' : D}, lookD ks ((ks.zip ds).map (fun p => if p.1 = z then d else p.2)) x = some d' → (x = z ∧ d' = d) ∨ lookD ks ds x = some d' := by
    intro ks
    induction ks with
    | nil => intro ds x d' h; cases h
    | cons k ks ih =>
      intro ds x d' h
      cases ds with
      | nil => cases h
      | cons e ds =>
        have h : (if k = x then some (if k = z then d else e) else lookD ks ((ks.zip ds).map (fun p => if p.1 = z then d else p.2)) x) = some d' := h
        show _ ∨ (if k = x then some e else lookD ks ds x) = some d'
        by_cases c : k = x
        · rw [if_pos c] at h ⊢
          have h := Option.some.inj h
          by_cases c2 : k = z
          · rw [if_pos c2] at h
            exact .inl ⟨by rw [← c, c2], h.symm⟩
          · rw [if_neg c2] at h
            exact .inr (by rw [h])
        · rw [if_neg c] at h ⊢
          exact ih h
  have a : ∀ {ks : List Str} {ds : List D} {x : Str} {d' : D}, ks.length = ds.length → lookD (ks ++ [z]) (ds ++ [d]) x = some d' → (x = z ∧ d' = d) ∨ lookD ks ds x = some d' := by
    intro ks
    induction ks with
    | nil =>
      intro ds x d' l h
      cases ds with
      | cons e ds => cases l
      | nil =>
        have h : (if z = x then some d else none) = some d' := h
        split at h
        · rename_i c
          exact .inl ⟨c.symm, (Option.some.inj h).symm⟩
        · cases h
    | cons k ks ih =>
      intro ds x d' l h
      cases ds with
      | nil => cases l
      | cons e ds =>
        have h : (if k = x then some e else lookD (ks ++ [z]) (ds ++ [d]) x) = some d' := h
        show _ ∨ (if k = x then some e else lookD ks ds x) = some d'
        by_cases c : k = x
        · rw [if_pos c] at h ⊢
          exact .inr h
        · rw [if_neg c] at h ⊢
          exact ih (Nat.succ.inj l) h
  intro ks ds x d' l h
  unfold putKs putVs at h
  split at h
  · exact m h
  · exact a l h
theorem put_lenD {ks : List Str} {ds : List D} {z : Str} {d : D} (l : ks.length = ds.length) : (putKs ks z).length = (putVs ks ds z d).length ∧ (putKs ks z).length ≤ ks.length + 1 := by
  refine ⟨put_len l, ?_⟩
  unfold putKs
  split
  · omega
  · rw [List.length_append, List.length_singleton]; exact Nat.le_refl _
structure Seen (ks : List Str) (ds : List D) : Prop where
  len : ks.length = ds.length
  at' : ∀ x d, lookD ks ds x = some d → ∃ q : Rat, d = fr q ∧ IsTx q x.cps.toList
theorem Seen.get {ks : List Str} {ds : List D} (s : Seen ks ds) {q : Rat} {cs : List Nat} (x : IsTx q cs) : (lookD ks ds (TX cs)).getD (fr q) = fr q := by
  cases e : lookD ks ds (TX cs) with
  | none => rfl
  | some d =>
    obtain ⟨q', rfl, x'⟩ := s.at' _ _ e
    rw [TX_cps] at x'
    have : q' = q := by rw [← rdQ_tx x', ← rdQ_tx x]
    rw [this]
    rfl
theorem Seen.put {ks : List Str} {ds : List D} (s : Seen ks ds) {q : Rat} {cs : List Nat} (x : IsTx q cs) : Seen (putKs ks (TX cs)) (putVs ks ds (TX cs) (fr q)) :=
  ⟨(put_lenD s.len).1, fun y d h => by
    rcases look_put s.len h with ⟨rfl, rfl⟩ | h
    · exact ⟨q, rfl, by rw [TX_cps]; exact x⟩
    · exact s.at' y d h⟩
def T_law : Tell := fun ds h r h' => ∀ zs : List Int, ds = [.lst (zs.map .int)] → zs.length ≤ 63 → h = [] → r = .bl true
noncomputable def G_law : Gam := gamL [(n_fraction_text, d_fraction_text), (n_fraction_told, d_fraction_told), (n_law_spring, d_law_spring), (n_law_alike, (d_law_alike 9)), (n_law_text, d_law_text), (n_law_drawn, d_law_drawn)] []
theorem cg_law_fraction_text {ds : List D} {h : Hm} : callG G_law n_fraction_text ds h = d_fraction_text ds h := rfl
theorem cg_law_fraction_told {ds : List D} {h : Hm} : callG G_law n_fraction_told ds h = d_fraction_told ds h := rfl
theorem cg_law_law_spring {ds : List D} {h : Hm} : callG G_law n_law_spring ds h = d_law_spring ds h := rfl
theorem cg_law_law_alike {ds : List D} {h : Hm} : callG G_law n_law_alike ds h = (d_law_alike 9) ds h := rfl
theorem cg_law_law_text {ds : List D} {h : Hm} : callG G_law n_law_text ds h = d_law_text ds h := rfl
theorem cg_law_law_drawn {ds : List D} {h : Hm} : callG G_law n_law_drawn ds h = d_law_drawn ds h := rfl
theorem N_law : c_law.N = (["script", "spring", "seen", "turn", "number", "text"] : List Str) := rfl
noncomputable def d_law : List D → Hm → Res D := denT G_law c_law.N 1 b_law T_law
theorem sp_law {ds : List D} {h : Hm} (hl : ds.length = 1) (w : wpB G_law b_law (startD c_law.N ds) h (PoT T_law ds h)) : ∃ r h2, d_law ds h = .ok r h2 ∧ T_law ds h r h2 := denT_ok hl w
theorem ub_law_10 {Γ : Gam} {σ : Sg} {h : Hm} {P : Po} : wpB Γ b_law_10 σ h P = wpB Γ (.cons (.ret (.bl false)) .nil) σ h P := rfl
theorem ub_law_11 {Γ : Gam} {σ : Sg} {h : Hm} {P : Po} : wpB Γ b_law_11 σ h P = wpB Γ (.cons (.ret (.bl false)) .nil) σ h P := rfl
theorem ub_law_9 {Γ : Gam} {σ : Sg} {h : Hm} {P : Po} : wpB Γ b_law_9 σ h P = wpB Γ (.cons (.dput (.v 2) (.v 5) (.v 4)) .nil) σ h P := rfl
theorem ub_law_8 {Γ : Gam} {σ : Sg} {h : Hm} {P : Po} : wpB Γ b_law_8 σ h P = wpB Γ (.cons (.ife (.bor (.bnot (.call n_law_alike (.cons (.lst (.cons (.call n_fraction_told (.cons (.v 5) .nil)) (.cons (.callk n_fraction_told .nil (.cons (.v 5) .nil) [0]) .nil))) (.cons (.lst (.cons (.v 4) (.cons (.v 4) .nil))) .nil)))) (.cmp .ne (.dget (.v 2) (.v 5) (.v 4)) (.v 4))) b_law_11 .nil) b_law_9) σ h P := rfl
theorem ub_law_7 {Γ : Gam} {σ : Sg} {h : Hm} {P : Po} : wpB Γ b_law_7 σ h P = wpB Γ (.cons (.ife (.bnot (.call n_law_alike (.cons (.lst (.cons (.call n_fraction_text (.cons (.v 4) .nil)) (.cons (.callk n_fraction_text .nil (.cons (.v 4) .nil) [0]) .nil))) (.cons (.lst (.cons (.v 5) (.cons (.v 5) .nil))) .nil)))) b_law_10 .nil) b_law_8) σ h P := rfl
theorem ub_law_6 {Γ : Gam} {σ : Sg} {h : Hm} {P : Po} : wpB Γ b_law_6 σ h P = wpB Γ (.cons (.set 5 (.call n_law_text (.cons (.v 4) .nil))) b_law_7) σ h P := rfl
theorem ub_law_5 {Γ : Gam} {σ : Sg} {h : Hm} {P : Po} : wpB Γ b_law_5 σ h P = wpB Γ (.cons (.set 4 (.call n_law_drawn (.cons (.v 1) .nil))) b_law_6) σ h P := rfl
theorem ub_law_4 {Γ : Gam} {σ : Sg} {h : Hm} {P : Po} : wpB Γ b_law_4 σ h P = wpB Γ (.cons (.ret (.bl true)) .nil) σ h P := rfl
theorem ub_law_3 {Γ : Gam} {σ : Sg} {h : Hm} {P : Po} : wpB Γ b_law_3 σ h P = wpB Γ (.cons (.for_ (.v 3) (.rng1 (.int 12)) b_law_5) b_law_4) σ h P := rfl
theorem ub_law_2 {Γ : Gam} {σ : Sg} {h : Hm} {P : Po} : wpB Γ b_law_2 σ h P = wpB Γ (.cons (.set 2 .dctM) b_law_3) σ h P := rfl
theorem ub_law {Γ : Gam} {σ : Sg} {h : Hm} {P : Po} : wpB Γ b_law σ h P = wpB Γ (.cons (.set 1 (.call n_law_spring (.cons (.v 0) .nil))) b_law_2) σ h P := rfl
local macro_rules | `(tactic| fail "mini u_law") => `(tactic| simp only [N_law, cg_law_fraction_text, cg_law_fraction_told, cg_law_law_spring, cg_law_law_alike, cg_law_law_text, cg_law_law_drawn, e_fraction_text, e_fraction_told, e_law_alike, e_law_text, opn_tup, opn_lst, opn_int, opn_str, opn_bl, opn_non, eq_self, ub_law_10, ub_law_11, ub_law_9, ub_law_8, ub_law_7, ub_law_6, ub_law_5, ub_law_4, ub_law_3, ub_law_2, ub_law])
local macro_rules | `(tactic| fail "mini x_law") => `(tactic| repeat (first | fail "mini fw" | fail "mini u_law" | fail "mini fxx"))
theorem dic2 {b : Br} {ks : List Str} {ds : List D} : dicOf? (hb b [.dic ks ds]) 2 = some (ks, ds) := rfl
theorem turn_1 {b : Br} {ks : List Str} {ds : List D} {x0 x3 x4 x5 : Option D} {Q : Po} (o : b.ok) (sn : Seen ks ds) (few : ks.length ≤ 100)
    (hQ : ∀ (b' : Br) ks' ds' x4 x5, b'.ok → Seen ks' ds' → ks'.length ≤ ks.length + 1 → Q.nx [x0, some (.ref 1), some (.ref 2), x3, x4, x5] (hb b' [.dic ks' ds'])) :
    wpB G_law b_law_5 [x0, some (.ref 1), some (.ref 2), x3, x4, x5] (hb b [.dic ks ds]) Q := by
  fail "mini x_law"
  obtain ⟨q, b1, e1, o1, qb⟩ := s_drawn (t := [.dic ks ds]) o
  rw [e1]
  fail "mini x_law"
  obtain ⟨cs, x, e2⟩ := e_law_text (h := hb b1 [.dic ks ds]) qb
  rw [e2]
  fail "mini x_law"
  obtain ⟨cs2, x2, e3⟩ := e_fraction_text (h := hb b1 [.dic ks ds]) qb
  have ec : cs2 = cs := x2.uniq x
  subst ec
  have ok := x.ok qb
  rw [e3]
  fail "mini x_law"
  rw [e3]
  fail "mini x_law"
  rw [alike_ok (k := 1) (plain_lst (by simp) (by simp only [List.all_cons, List.all_nil, plain_str ok.ok, Bool.and_self])) (by decide)]
  fail "mini x_law"
  have e4 := e_fraction_told (h := hb b1 [.dic ks ds]) qb x
  rw [e4]
  fail "mini x_law"
  rw [e4]
  fail "mini x_law"
  rw [alike_ok (k := 2) (plain_lst (by simp) (by simp only [List.all_cons, List.all_nil, fr_plain, Bool.and_self])) (by decide)]
  fail "mini x_law"
  rw [isDictD_ref dic2]
  fail "mini x_law"
  rw [dgetD_ref dic2, sn.get x]
  fail "mini x_law"
  rw [eq_refl (by decide) (fr_plain q)]
  fail "mini x_law"
  refine L_dput rfl rfl rfl dic2 (show ks.length < LIM from Nat.lt_of_le_of_lt few (by decide)) ?_
  rw [b_nil]
  exact hQ b1 _ _ _ _ o1 (sn.put x) (put_lenD (z := TX cs2) (d := fr q) sn.len).2
theorem law_eq {zs : List Int} (hl : zs.length ≤ 63) : ∃ h', d_law [.lst (zs.map .int)] [] = .ok (.bl true) h' := by
  have w : wpB G_law b_law (startD c_law.N [.lst (zs.map .int)]) [] (PoT T_law [.lst (zs.map .int)] []) := by
    fail "mini x_law"
    obtain ⟨b, e, o⟩ := s_spring hl
    rw [e]
    fail "mini x_law"
    rw [show smallI 12 = true from smallI_mk (by decide) (by decide), Res.guard_true]
    refine L_for (fun i σ h2 => ∃ (b : Br) (ks : List Str) (ds : List D) (x3 x4 x5 : Option D), σ = [some (.lst (zs.map .int)), some (.ref 1), some (.ref 2), x3, x4, x5] ∧ h2 = hb b [.dic ks ds] ∧ b.ok ∧ Seen ks ds ∧ ks.length ≤ i) ⟨b, [], [], _, _, _, rfl, rfl, o, ⟨rfl, fun x d h => by cases h⟩, by decide⟩ ?_ ?_
    · rintro i y σ h2 hi ⟨b, ks, ds, x3, x4, x5, rfl, rfl, ob, sn, few⟩
      have i12 : i < 12 := by
        have := (List.getElem?_eq_some_iff.mp hi).1
        rw [rngD_length] at this
        exact this
      exact ⟨_, rfl, turn_1 ob sn (by omega) fun b' ks' ds' y4 y5 o' sn' few' => ⟨b', ks', ds', _, _, _, rfl, rfl, o', sn', by omega⟩⟩
    · rintro σ h2 ⟨b, ks, ds, x3, x4, x5, rfl, rfl, ob, sn, few⟩
      fail "mini x_law"
      exact po_rt fun _ _ _ _ => rfl
  obtain ⟨r, h2, e, T⟩ := sp_law rfl w
  exact ⟨h2, by rw [e, T zs rfl hl rfl]⟩

/-! globals that are tuples of numbers, and tuples of these -/
section
variable {K : PySem.W.Frag} {mg : Str → Option Value} {h0 : Heap} {x : Str}
def IntsO (K : PySem.W.Frag) (v : Value) (ns : List Int) : Prop := ∃ (a : Addr) (its : Array Value) (n : Nat) (osl : Array (Option Value)), v = .ref a ∧ K.lookup a = some ⟨.type "tuple", none, .seq its n, osl⟩ ∧ its.size ≤ sizeLine ∧ Vals (ns.map V.int) its.toList
theorem ints_o {ns : List Int} {a : Addr} {its : Array Value} {n : Nat} {osl : Array (Option Value)} (h2 : K.lookup a = some ⟨.type "tuple", none, .seq its n, osl⟩) (h3 : its.size ≤ 1000) (h4 : Vals (ns.map V.int) its.toList) : IntsO K (.ref a) ns :=
  ⟨a, its, n, osl, rfl, h2, by rw [sz]; omega, h4⟩
theorem ints_rd {v : Value} {ns : List Int} (o : IntsO K v ns) : ∃ a : Addr, v = .ref a ∧ ∀ H ρ M, RD K H ρ M (.tup (ns.map D.int)) (.ref a) := by
  obtain ⟨a, its, n, osl, rfl, h2, h3, h4⟩ := o
  refine ⟨a, rfl, fun H ρ M => .tup (.inr ⟨_, its, n, h2, rfl, rfl, rfl, h3, h4⟩) ?_⟩
  clear h4
  induction ns with
  | nil => exact .nil
  | cons y ys ih => exact .cons (.int y) ih
def IntsAt (K : PySem.W.Frag) (x : Str) (ns : List Int) : Prop := ∃ v, PySem.W.nsIn K mainGlobals x = some (some v) ∧ IntsO K v ns
theorem ints_at {ns : List Int} {a : Addr} (h1 : PySem.W.nsIn K mainGlobals x = some (some (.ref a))) (o : IntsO K (.ref a) ns) : IntsAt K x ns := ⟨_, h1, o⟩
theorem gl_ints {c : Ctx} {g : Nat} {ns : List Int} (hx : c.glm[g]? = some x) (X : K.In h0) (G : h0.Ns mainGlobals mg) (ha : IntsAt K x ns) : ∃ x u v, c.glm[g]? = some x ∧ mg x = some u ∧ RelV v u ∧ ∀ H ρ M, RD K H ρ M (.tup (ns.map D.int)) v := by
  obtain ⟨v, h1, o⟩ := ha
  obtain ⟨a, rfl, r⟩ := ints_rd o
  exact ⟨x, .ref a, .ref a, hx, PySem.W.mg_of X G h1, rfl, r⟩
def TupsO (K : PySem.W.Frag) : List (List Int) → List Value → Prop
  | [], [] => True
  | ns :: nss, v :: vs => IntsO K v ns ∧ TupsO K nss vs
  | _, _ => False
theorem tups_rd : ∀ {nss : List (List Int)} {vs : List Value}, TupsO K nss vs → ∃ us : List V, Vals us vs ∧ ∀ H ρ M, RDs K H ρ M (nss.map fun ns => D.tup (ns.map D.int)) us
  | [], [], _ => ⟨[], .nil, fun _ _ _ => .nil⟩
  | ns :: nss, v :: vs, o => by
    obtain ⟨a, rfl, r⟩ := ints_rd o.1
    obtain ⟨us, e, rs⟩ := tups_rd o.2
    exact ⟨.ref a :: us, .cons rfl e, fun H ρ M => .cons (r H ρ M) (rs H ρ M)⟩
  | [], _ :: _, o => o.elim
  | _ :: _, [], o => o.elim
def TupsAt (K : PySem.W.Frag) (x : Str) (nss : List (List Int)) : Prop := ∃ (a : Addr) (its : Array Value) (n : Nat) (osl : Array (Option Value)), PySem.W.nsIn K mainGlobals x = some (some (.ref a)) ∧ K.lookup a = some ⟨.type "tuple", none, .seq its n, osl⟩ ∧ its.size ≤ sizeLine ∧ TupsO K nss its.toList
theorem tups_at {nss : List (List Int)} {a : Addr} {its : Array Value} {n : Nat} {osl : Array (Option Value)} (h1 : PySem.W.nsIn K mainGlobals x = some (some (.ref a))) (h2 : K.lookup a = some ⟨.type "tuple", none, .seq its n, osl⟩) (h3 : its.size ≤ 1000) (h4 : TupsO K nss its.toList) : TupsAt K x nss :=
  ⟨a, its, n, osl, h1, h2, by rw [sz]; omega, h4⟩
theorem gl_tups {c : Ctx} {g : Nat} {nss : List (List Int)} (hx : c.glm[g]? = some x) (X : K.In h0) (G : h0.Ns mainGlobals mg) (ha : TupsAt K x nss) : ∃ x u v, c.glm[g]? = some x ∧ mg x = some u ∧ RelV v u ∧ ∀ H ρ M, RD K H ρ M (.tup (nss.map fun ns => D.tup (ns.map D.int))) v := by
  obtain ⟨a, its, n, osl, h1, h2, h3, h4⟩ := ha
  obtain ⟨us, e, rs⟩ := tups_rd h4
  exact ⟨x, .ref a, .ref a, hx, PySem.W.mg_of X G h1, rfl, fun H ρ M => .tup (.inr ⟨_, its, n, h2, rfl, rfl, rfl, h3, e⟩) (rs H ρ M)⟩
end

/-! all together -/
local macro_rules | `(tactic| fail "mini bd1") => `(tactic| exact fun _ _ _ _ _ _ us hl => match us, hl with | [_], _ => rfl)
local macro_rules | `(tactic| fail "mini bd2") => `(tactic| exact fun _ _ _ _ _ _ us hl => match us, hl with | [_, _], _ => rfl)
local macro_rules | `(tactic| fail "mini bd3") => `(tactic| exact fun _ _ _ _ _ _ us hl => match us, hl with | [_, _, _], _ => rfl)
local macro_rules | `(tactic| fail "mini kd0_1") => `(tactic| exact fun _ _ _ _ _ _ us ws hl hw => match us, ws, hl, hw with | [], [_], _, _ => rfl)
theorem kws_nil {P : Program} {w : World} {K : PySem.W.Frag} {mg : Str → Option Value} {base : Heap} {k : Nat} {c : Ctx} : ∀ l, Kws P w K mg base k c (gamL [] []) l
  | [] => trivial
  | e :: l => ⟨(fun den hd => by cases hd), kws_nil l⟩
def IntAt (K : PySem.W.Frag) (x : Str) (i : Int) : Prop := ∃ t, PySem.W.nsIn K mainGlobals x = some (some (.int i t))
theorem int_at {K : PySem.W.Frag} {x : Str} {i : Int} {t : Tok} (a : PySem.W.nsIn K mainGlobals x = some (some (.int i t))) : IntAt K x i := ⟨t, a⟩
theorem gl_int {K : PySem.W.Frag} {mg : Str → Option Value} {h0 : Heap} {c : Ctx} {i : Int} {g : Nat} {x : Str} (hx : c.glm[g]? = some x) (X : K.In h0) (G : h0.Ns mainGlobals mg) (ha : IntAt K x i) :
    ∃ x u v, c.glm[g]? = some x ∧ mg x = some u ∧ RelV v u ∧ ∀ H ρ M, RD K H ρ M (.int i) v := by
  obtain ⟨t, ha⟩ := ha
  exact ⟨x, .int i t, .int i, hx, PySem.W.mg_of X G ha, ⟨t, rfl⟩, fun H ρ M => .int i⟩
def StrAt (K : PySem.W.Frag) (x : Str) (i : Str) : Prop := ∃ t, PySem.W.nsIn K mainGlobals x = some (some (.str i t))
theorem str_at {K : PySem.W.Frag} {x : Str} {i : Str} {t : Tok} (a : PySem.W.nsIn K mainGlobals x = some (some (.str i t))) : StrAt K x i := ⟨t, a⟩
theorem gl_str {K : PySem.W.Frag} {mg : Str → Option Value} {h0 : Heap} {c : Ctx} {i : Str} {g : Nat} {x : Str} (hx : c.glm[g]? = some x) (X : K.In h0) (G : h0.Ns mainGlobals mg) (ha : StrAt K x i) :
    ∃ x u v, c.glm[g]? = some x ∧ mg x = some u ∧ RelV v u ∧ ∀ H ρ M, RD K H ρ M (.str i) v := by
  obtain ⟨t, ha⟩ := ha
  exact ⟨x, .str i t, .str i, hx, PySem.W.mg_of X G ha, ⟨t, rfl⟩, fun H ρ M => .str i⟩
structure Defs (K : PySem.W.Frag) : Prop where
  is_integer : DefAt K "is_integer" s_is_integer
  common : DefAt K "common" s_common
  is_fraction : DefAt K "is_fraction" s_is_fraction
  check_fractions : DefAt K "check_fractions" s_check_fractions
  places_of : DefAt K "places_of" s_places_of
  fraction_text : DefAt K "fraction_text" s_fraction_text
  digits_end : DefAt K "digits_end" s_digits_end
  lowest : DefAt K "lowest" s_lowest
  decimal_told : DefAt K "decimal_told" s_decimal_told
  quotient_told : DefAt K "quotient_told" s_quotient_told
  fraction_told : DefAt K "fraction_told" s_fraction_told
  law_spring : DefAt K "_law_spring" s_law_spring
  law_kinds : DefAt K "_law_kinds" s_law_kinds
  law_alike : DefAt K "_law_alike" s_law_alike
  law_text : DefAt K "_law_text" s_law_text
  law_drop : DefAt K "_law_drop" s_law_drop
  law_low : DefAt K "_law_low" s_law_low
  law_number : DefAt K "_law_number" s_law_number
  law_drawn : DefAt K "_law_drawn" s_law_drawn
  law : DefAt K "law" s_law
structure Consts (K : PySem.W.Frag) : Prop where
  DIGITS : StrAt K "DIGITS" "0123456789"
structure Excs (K : PySem.W.Frag) : Prop where
  none : True
theorem all_mk {P : Program} {w : World} {K : PySem.W.Frag} {h : Heap} {mg : Str → Option Value} {fa : Addr} (X : K.In h) (G : h.Ns mainGlobals mg) (hfa : mg "law" = some (.ref fa)) (A : Defs K) (C : Consts K) (Z : Excs K) (bi : ∀ x ∈ bNames, PySem.W.nsIn K mainGlobals x = some none) :
    ∃ fd : FuncData, (∀ (s : Shared) (u : Value), BindsTo s fd ⟨[u], []⟩ [("script", u)]) ∧ ∀ base : Heap, K.In base → base.Ns mainGlobals mg → RunsAt P w K mg base callerA fa fd ["script"] (spD K 1 d_law) := by
  have B : ∀ x ∈ bNames, mg x = none := fun x hx => PySem.W.mg_none_of X G (bi x hx)
  refine law_step2 (k := 11) (c := c_law) (Γ := G_law) A.law X G hfa f_law rfl rfl (fun base => ?_) k_law (fun _ _ _ _ _ _ _ => rfl) denT_len denT_body ⟨rfl, by decide, by decide⟩
  have F_is_integer : FnAt P w K mg base 1 "is_integer" d_is_integer := fn_step (c := c_is_integer) (ps := ["value"]) (Γ := G_is_integer) A.is_integer X G f_is_integer rfl ⟨rfl, rfl⟩ (k := 0) (env_mk B trivial trivial trivial all_nil all_nil) k_is_integer (by fail "mini bd1") denT_len denT_body
  have F_common : FnAt P w K mg base 1 "common" d_common := fn_step (c := c_common) (ps := ["one", "other"]) (Γ := G_common) A.common X G f_common rfl ⟨rfl, rfl⟩ (k := 0) (env_mk B trivial trivial trivial all_nil all_nil) k_common (by fail "mini bd2") denT_len denT_body
  have F_is_fraction : FnAt P w K mg base 2 "is_fraction" d_is_fraction := fn_step (c := c_is_fraction) (ps := ["value"]) (Γ := G_is_fraction) A.is_fraction X G f_is_fraction rfl ⟨rfl, rfl⟩ (k := 1) (env_mk B ⟨⟨_, rfl, F_is_integer.mono (by omega)⟩, ⟨_, rfl, F_common.mono (by omega)⟩, trivial⟩ trivial trivial all_nil all_nil) k_is_fraction (by fail "mini bd1") denT_len denT_body
  have F_check_fractions : FnAt P w K mg base 3 "check_fractions" d_check_fractions := fn_step (c := c_check_fractions) (ps := ["numbers"]) (Γ := G_check_fractions) A.check_fractions X G f_check_fractions rfl ⟨rfl, rfl⟩ (k := 2) (env_mk B ⟨⟨_, rfl, F_is_fraction.mono (by omega)⟩, trivial⟩ trivial trivial all_nil all_nil) k_check_fractions (by fail "mini bd1") denT_len denT_body
  have F_places_of : FnAt P w K mg base 1 "places_of" d_places_of := fn_step (c := c_places_of) (ps := ["bottom"]) (Γ := G_places_of) A.places_of X G f_places_of rfl ⟨rfl, rfl⟩ (k := 0) (env_mk B trivial trivial trivial all_nil all_nil) k_places_of (by fail "mini bd1") denT_len denT_body
  have F_fraction_text : FnAt P w K mg base 4 "fraction_text" d_fraction_text := fn_step (c := c_fraction_text) (ps := ["number"]) (Γ := G_fraction_text) A.fraction_text X G f_fraction_text rfl ⟨rfl, rfl⟩ (k := 3) (env_mk B ⟨⟨_, rfl, F_check_fractions.mono (by omega)⟩, ⟨_, rfl, F_places_of.mono (by omega)⟩, trivial⟩ trivial trivial all_nil all_nil) k_fraction_text (by fail "mini bd1") denT_len denT_body
  have K_fraction_text_0 : FnKAt P w K mg base 4 "fraction_text" d_fraction_text 0 ["number"] [0] := fnk_step (c := c_fraction_text) (ps := ["number"]) (Γ := G_fraction_text) A.fraction_text X G f_fraction_text rfl ⟨rfl, rfl⟩ (k := 3) (env_mk B ⟨⟨_, rfl, F_check_fractions.mono (by omega)⟩, ⟨_, rfl, F_places_of.mono (by omega)⟩, trivial⟩ trivial trivial all_nil all_nil) k_fraction_text (by fail "mini kd0_1") denT_len denT_body
  have F_digits_end : FnAt P w K mg base 1 "digits_end" d_digits_end := fn_step (c := c_digits_end) (ps := ["text", "at"]) (Γ := G_digits_end) A.digits_end X G f_digits_end rfl ⟨rfl, rfl⟩ (k := 0) (env_mk B trivial trivial ⟨gl_str rfl X G C.DIGITS, trivial⟩ all_nil all_nil) k_digits_end (by fail "mini bd2") denT_len denT_body
  have F_lowest : FnAt P w K mg base 2 "lowest" d_lowest := fn_step (c := c_lowest) (ps := ["top", "bottom"]) (Γ := G_lowest) A.lowest X G f_lowest rfl ⟨rfl, rfl⟩ (k := 1) (env_mk B ⟨⟨_, rfl, F_common.mono (by omega)⟩, trivial⟩ trivial trivial all_nil all_nil) k_lowest (by fail "mini bd2") denT_len denT_body
  have F_decimal_told : FnAt P w K mg base 3 "decimal_told" d_decimal_told := fn_step (c := c_decimal_told) (ps := ["text", "at", "end"]) (Γ := G_decimal_told) A.decimal_told X G f_decimal_told rfl ⟨rfl, rfl⟩ (k := 2) (env_mk B ⟨⟨_, rfl, F_lowest.mono (by omega)⟩, ⟨_, rfl, F_digits_end.mono (by omega)⟩, trivial⟩ trivial trivial all_nil all_nil) k_decimal_told (by fail "mini bd3") denT_len denT_body
  have F_quotient_told : FnAt P w K mg base 2 "quotient_told" d_quotient_told := fn_step (c := c_quotient_told) (ps := ["text", "at", "end"]) (Γ := G_quotient_told) A.quotient_told X G f_quotient_told rfl ⟨rfl, rfl⟩ (k := 1) (env_mk B ⟨⟨_, rfl, F_common.mono (by omega)⟩, ⟨_, rfl, F_places_of.mono (by omega)⟩, ⟨_, rfl, F_digits_end.mono (by omega)⟩, trivial⟩ trivial trivial all_nil all_nil) k_quotient_told (by fail "mini bd3") denT_len denT_body
  have F_fraction_told : FnAt P w K mg base 4 "fraction_told" d_fraction_told := fn_step (c := c_fraction_told) (ps := ["text"]) (Γ := G_fraction_told) A.fraction_told X G f_fraction_told rfl ⟨rfl, rfl⟩ (k := 3) (env_mk B ⟨⟨_, rfl, F_digits_end.mono (by omega)⟩, ⟨_, rfl, F_decimal_told.mono (by omega)⟩, ⟨_, rfl, F_quotient_told.mono (by omega)⟩, trivial⟩ trivial trivial all_nil all_nil) k_fraction_told (by fail "mini bd1") denT_len denT_body
  have K_fraction_told_0 : FnKAt P w K mg base 4 "fraction_told" d_fraction_told 0 ["text"] [0] := fnk_step (c := c_fraction_told) (ps := ["text"]) (Γ := G_fraction_told) A.fraction_told X G f_fraction_told rfl ⟨rfl, rfl⟩ (k := 3) (env_mk B ⟨⟨_, rfl, F_digits_end.mono (by omega)⟩, ⟨_, rfl, F_decimal_told.mono (by omega)⟩, ⟨_, rfl, F_quotient_told.mono (by omega)⟩, trivial⟩ trivial trivial all_nil all_nil) k_fraction_told (by fail "mini kd0_1") denT_len denT_body
  have F_law_spring : FnAt P w K mg base 1 "_law_spring" d_law_spring := fn_step (c := c_law_spring) (ps := ["script"]) (Γ := G_law_spring) A.law_spring X G f_law_spring rfl ⟨rfl, rfl⟩ (k := 0) (env_mk B trivial trivial trivial all_nil all_nil) k_law_spring (by fail "mini bd1") denT_len denT_body
  have F_law_kinds : FnAt P w K mg base 1 "_law_kinds" d_law_kinds := fn_step (c := c_law_kinds) (ps := ["thing"]) (Γ := G_law_kinds) A.law_kinds X G f_law_kinds rfl ⟨rfl, rfl⟩ (k := 0) (env_mk B trivial trivial trivial all_nil all_nil) k_law_kinds (by fail "mini bd1") denT_len denT_body
  have R_law_alike : ∀ j, FnAt P w K mg base (1 + 1 + j) "_law_alike" (d_law_alike j) := fun j => by
    induction j with
    | zero => exact fn_step (c := c_law_alike) (ps := ["found", "due"]) (Γ := gamL [] []) A.law_alike X G f_law_alike rfl ⟨rfl, rfl⟩ (k := 1) (env_mk B trivial (kws_nil _) trivial) k_law_alike (by fail "mini bd2") ⟨fun _ _ _ _ e => (by cases e), fun _ _ _ _ e => (by cases e)⟩ ⟨fun _ _ _ _ e => (by cases e), fun _ _ _ _ e => (by cases e)⟩
    | succ j F => exact fn_step (c := c_law_alike) (ps := ["found", "due"]) (Γ := G_law_alike (d_law_alike j)) A.law_alike X G f_law_alike rfl ⟨rfl, rfl⟩ (k := 1 + 1 + j) (env_mk B ⟨⟨_, rfl, F_law_kinds.mono (by omega)⟩, ⟨_, rfl, F⟩, trivial⟩ trivial trivial all_nil all_nil) k_law_alike (by fail "mini bd2") denT_len denT_body
  have F_law_text : FnAt P w K mg base 1 "_law_text" d_law_text := fn_step (c := c_law_text) (ps := ["number"]) (Γ := G_law_text) A.law_text X G f_law_text rfl ⟨rfl, rfl⟩ (k := 0) (env_mk B trivial trivial trivial all_nil all_nil) k_law_text (by fail "mini bd1") denT_len denT_body
  have F_law_drop : FnAt P w K mg base 1 "_law_drop" d_law_drop := fn_step (c := c_law_drop) (ps := ["spring", "many"]) (Γ := G_law_drop) A.law_drop X G f_law_drop rfl ⟨rfl, rfl⟩ (k := 0) (env_mk B trivial trivial trivial all_nil all_nil) k_law_drop (by fail "mini bd2") denT_len denT_body
  have F_law_low : FnAt P w K mg base 1 "_law_low" d_law_low := fn_step (c := c_law_low) (ps := ["top", "bottom"]) (Γ := G_law_low) A.law_low X G f_law_low rfl ⟨rfl, rfl⟩ (k := 0) (env_mk B trivial trivial trivial all_nil all_nil) k_law_low (by fail "mini bd2") denT_len denT_body
  have F_law_number : FnAt P w K mg base 2 "_law_number" d_law_number := fn_step (c := c_law_number) (ps := ["spring"]) (Γ := G_law_number) A.law_number X G f_law_number rfl ⟨rfl, rfl⟩ (k := 1) (env_mk B ⟨⟨_, rfl, F_law_drop.mono (by omega)⟩, ⟨_, rfl, F_law_low.mono (by omega)⟩, trivial⟩ trivial trivial all_nil all_nil) k_law_number (by fail "mini bd1") denT_len denT_body
  have F_law_drawn : FnAt P w K mg base 3 "_law_drawn" d_law_drawn := fn_step (c := c_law_drawn) (ps := ["spring"]) (Γ := G_law_drawn) A.law_drawn X G f_law_drawn rfl ⟨rfl, rfl⟩ (k := 2) (env_mk B ⟨⟨_, rfl, F_law_drop.mono (by omega)⟩, ⟨_, rfl, F_law_low.mono (by omega)⟩, ⟨_, rfl, F_law_number.mono (by omega)⟩, trivial⟩ trivial trivial all_nil all_nil) k_law_drawn (by fail "mini bd1") denT_len denT_body
  exact (env_mk B ⟨⟨_, rfl, F_fraction_text.mono (by omega)⟩, ⟨_, rfl, F_fraction_told.mono (by omega)⟩, ⟨_, rfl, F_law_spring.mono (by omega)⟩, ⟨_, rfl, (R_law_alike 9).mono (by omega)⟩, ⟨_, rfl, F_law_text.mono (by omega)⟩, ⟨_, rfl, F_law_drawn.mono (by omega)⟩, trivial⟩ ⟨fun den hd => by cases hd; exact ⟨_, rfl, K_fraction_text_0.mono (by omega)⟩, fun den hd => by cases hd; exact ⟨_, rfl, K_fraction_told_0.mono (by omega)⟩, trivial⟩ trivial all_nil all_nil)


end K02
end Mn
open PySem PySem.W PyProof.Rows
set_option maxRecDepth 100000 in
set_option maxHeartbeats 0 in
theorem PySem.Challenge.cw_drawntold_k02_texts_of_fractions_holds : PySem.Challenge.rw_drawntold_k02_texts_of_fractions.Holds := by
  w_on; o_law; k_head; (case hw => w_witness2)
  k_fill
  refine Mn.law_walk2 (l := PySem.Challenge.rw_drawntold_k02_texts_of_fractions) (den := Mn.K02.d_law) rfl rfl (fun w h Y => PySem.W.kIn_of Y) (fun zs hz => Mn.K02.law_eq hz) ?F
  case F =>
    intro w mg fa h KX G hmg
    refine' Mn.K02.all_mk KX G hmg ⟨?d1, ?d2, ?d3, ?d4, ?d5, ?d6, ?d7, ?d8, ?d9, ?d10, ?d11, ?d12, ?d13, ?d14, ?d15, ?d16, ?d17, ?d18, ?d19, ?d20⟩ ⟨?g1⟩ ⟨trivial⟩ (Mn.bi_of ?z0 ?z1 ?z2 ?z3 ?z4 ?z5 ?z6 ?z7 ?z8 ?z9 ?z10 ?z11 ?z12 ?z13 ?z14 ?z15 ?z16 ?z17 ?z18 ?z19)
    case' d1 => refine' Mn.def_at ?a ?l ?c ?k; (case a => k_is); (case l => k_is); (case c => k_is); (case k => k_is)
    case' d2 => refine' Mn.def_at ?a ?l ?c ?k; (case a => k_is); (case l => k_is); (case c => k_is); (case k => k_is)
    case' d3 => refine' Mn.def_at ?a ?l ?c ?k; (case a => k_is); (case l => k_is); (case c => k_is); (case k => k_is)
    case' d4 => refine' Mn.def_at ?a ?l ?c ?k; (case a => k_is); (case l => k_is); (case c => k_is); (case k => k_is)
    case' d5 => refine' Mn.def_at ?a ?l ?c ?k; (case a => k_is); (case l => k_is); (case c => k_is); (case k => k_is)
    case' d6 => refine' Mn.def_at ?a ?l ?c ?k; (case a => k_is); (case l => k_is); (case c => k_is); (case k => k_is)
    case' d7 => refine' Mn.def_at ?a ?l ?c ?k; (case a => k_is); (case l => k_is); (case c => k_is); (case k => k_is)
    case' d8 => refine' Mn.def_at ?a ?l ?c ?k; (case a => k_is); (case l => k_is); (case c => k_is); (case k => k_is)
    case' d9 => refine' Mn.def_at ?a ?l ?c ?k; (case a => k_is); (case l => k_is); (case c => k_is); (case k => k_is)
    case' d10 => refine' Mn.def_at ?a ?l ?c ?k; (case a => k_is); (case l => k_is); (case c => k_is); (case k => k_is)
    case' d11 => refine' Mn.def_at ?a ?l ?c ?k; (case a => k_is); (case l => k_is); (case c => k_is); (case k => k_is)
    case' d12 => refine' Mn.def_at ?a ?l ?c ?k; (case a => k_is); (case l => k_is); (case c => k_is); (case k => k_is)
    case' d13 => refine' Mn.def_at ?a ?l ?c ?k; (case a => k_is); (case l => k_is); (case c => k_is); (case k => k_is)
    case' d14 => refine' Mn.def_at ?a ?l ?c ?k; (case a => k_is); (case l => k_is); (case c => k_is); (case k => k_is)
    case' d15 => refine' Mn.def_at ?a ?l ?c ?k; (case a => k_is); (case l => k_is); (case c => k_is); (case k => k_is)
    case' d16 => refine' Mn.def_at ?a ?l ?c ?k; (case a => k_is); (case l => k_is); (case c => k_is); (case k => k_is)
    case' d17 => refine' Mn.def_at ?a ?l ?c ?k; (case a => k_is); (case l => k_is); (case c => k_is); (case k => k_is)
    case' d18 => refine' Mn.def_at ?a ?l ?c ?k; (case a => k_is); (case l => k_is); (case c => k_is); (case k => k_is)
    case' d19 => refine' Mn.def_at ?a ?l ?c ?k; (case a => k_is); (case l => k_is); (case c => k_is); (case k => k_is)
    case' d20 => refine' Mn.def_at ?a ?l ?c ?k; (case a => k_is); (case l => k_is); (case c => k_is); (case k => k_is)
    case' g1 => refine' Mn.K02.str_at ?a; (case a => k_is)
    (case z0 => k_is)
    (case z1 => k_is)
    (case z2 => k_is)
    (case z3 => k_is)
    (case z4 => k_is)
    (case z5 => k_is)
    (case z6 => k_is)
    (case z7 => k_is)
    (case z8 => k_is)
    (case z9 => k_is)
    (case z10 => k_is)
    (case z11 => k_is)
    (case z12 => k_is)
    (case z13 => k_is)
    (case z14 => k_is)
    (case z15 => k_is)
    (case z16 => k_is)
    (case z17 => k_is)
    (case z18 => k_is)
    (case z19 => k_is)
#print axioms PySem.Challenge.cw_drawntold_k02_texts_of_fractions_holds
