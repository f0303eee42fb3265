import PyProof.Rows.All
import Wide.All
import OpenK.AllK
import Wide.FinOn
import HandS.ForMost
import HandS.Wide
import HandS.Style
import HandS.TupAny
import HandS.Conv
import HandS.Zip
import HandS.Rev
import HandS.SetKeys
import KE.GoesEnum
import PyProof.ReprRoads
import HandS.TupMul
import PyProof.StrOps2
import HandS.SortRule
import HandS.NoneIn
import KE.SortData
import HandS.IsInst
import HandS.Strs
import HandS.Defaults
import HandS.CallLocal
import HandS.Ends
import PyProof.StrLawsRepr
import PySem.Challenge.RW_drawntold_k12_rows_and_tables_judged
set_option Elab.async false
set_option linter.all false
set_option exponentiation.threshold 20000
set_option maxRecDepth 100000
set_option maxHeartbeats 4000000
namespace Mn
open PySem PySem.Spec PyProof.Rows
open L2 hiding It
/-! Mini R: rules that the hand layer lacks. -/
section
variable {X : Cx} {pos : Pos}
/-! ### slices of tuples: known to the object -/
def rSlF (K : PySem.W.Frag) : V → Option Int → Option Int → Hp → VK → Prop := fun x lo hi H Q => ∃ a xs, x = .ref a ∧ SqT K H a xs ∧
  (HT.sIx xs.length 0 lo = 0 ∧ HT.sIx xs.length xs.length hi = xs.length → Q (.ref a) H) ∧
  (¬ (HT.sIx xs.length 0 lo = 0 ∧ HT.sIx xs.length xs.length hi = xs.length) → ∀ (p : Addr) (o : Obj), H p = none → o.dict = none → Q (.ref p) (upd H p (.frz o (.tup (cutV xs lo hi)))))
theorem sl_tupF : L2.SlR X (rSlF X.K) := by
  intro pins s σ H x v vl vu lo hi sl Q I rx hs pl pu h
  obtain ⟨a, xs, e, hx, q1, q2⟩ := h
  subst e
  by_cases hw : HT.sIx xs.length 0 lo = 0 ∧ HT.sIx xs.length xs.length hi = xs.length
  · exact sl_tupA pins s σ H _ v vl vu lo hi sl Q I rx hs pl pu ⟨a, xs, rfl, hx, q1, fun n => absurd hw n⟩
  · obtain rfl : v = Value.ref a := rx
    obtain ⟨its, rv, tp, hz⟩ := I.tuple hx
    have hlen : its.toArray.size = xs.length := by rw [List.size_toArray]; exact rv.length.symm
    refine ⟨"tuple", _, slot_tuple_getitem.lookup, tp.typeIs, HT.getItem_tuple_cut tp hs pl pu (by rw [hlen]; exact hw) ?_ (by rw [hlen]; exact hz)⟩
    rw [hlen]
    generalize hits : ((its.toArray.toList.drop (HT.sIx xs.length 0 lo)).take (HT.sIx xs.length xs.length hi - HT.sIx xs.length 0 lo)).toArray = new
    have rn : Vals (cutV xs lo hi) new.toList := by
      rw [← hits]
      simp only [List.toList_toArray]
      exact (rv.drop _).take _
    refine ⟨.ref s.heap.objs.size, _, I.laid (t' := s.toks) (o := .frz { cls := .type "tuple", data := .seq new } (.tup (cutV xs lo hi))) (fun b ob q => Heap.get?_push_of_some _ q) (Nat.le_refl _) ?_, rfl, q2 hw _ _ (I.hok.fresh (Nat.le_refl _)) rfl⟩
    refine ⟨Heap.get?_push_size _ rfl, Nat.le_trans (cutV_length xs lo hi) hz, new.toList, rn, ?_⟩
    rw [Array.toArray_toList]
    exact IsTup.new _ _
/-! ### tuple(range(..)): known to the object -/
variable {e : Expr} {te : L2.St → Hp → (Int → Int → Hp → Prop) → Prop}
def tTupRgF (te : L2.St → Hp → (Int → Int → Hp → Prop) → Prop) : TE := fun σ H Q => te σ H fun a b H1 => RgOk a b ∧ ∀ (q : Addr) (o : Obj), H1 q = none → o.dict = none → Q (.ref q) (upd H1 q (.frz o (.tup (rgV a b))))
theorem pe_tupRgF {p : Pos} (hc : X.calm = true) (hg : Gl X "tuple") (hm : X.mg "tuple" = none) (he : PRg X e te) (na : starEach [e] X.env = (false, eval e X.env) :: starEach [] X.env) : PE X (.Call (.Name "tuple" p) [e] [] pos) (tTupRgF te) := by
  refine ⟨fun pins s σ H Q I h => Call_ (ld_blt I hg hm boot_tuple (callWith_type1 (args_cons (thn (he pins s σ H _ I h) fun x s1 ⟨r, a, b, t, u, v, H1, ex, hr, I1, ok, q⟩ => args_nil ?_) na) na))⟩
  obtain ⟨b1, b2, b3, b4, b5⟩ := ok
  rw [ex]
  refine call_tuple_range (n := (b - a).toNat) (I1.ok.hd hc) hr (small_one b1 b2 b3 b4) (rangeSize_nat a b) b5 fun h2 tk acc hk hi => ?_
  have I2 : Inv X pins σ H1 { s1 with heap := h2, toks := tk } := I1.kept hk
  have zl : (rgV a b).length ≤ sizeLine := by rw [rgV_length, sizeLine_eq]; omega
  have it : IsTup (h2.push { cls := .type "tuple", data := .seq acc }) h2.objs.size acc.toList.toArray := by rw [Array.toArray_toList]; exact IsTup.new _ _
  exact ⟨.ref h2.objs.size, _, I2.laid (t' := tk) (o := .frz { cls := .type "tuple", data := .seq acc } (.tup (rgV a b))) (fun c o z => Heap.get?_push_of_some _ z) (Nat.le_refl _) ⟨Heap.get?_push_size _ rfl, zl, acc.toList, vals_rg hi, it⟩, rfl, q _ _ (I2.hok.fresh (Nat.le_refl _)) rfl⟩
/-! ### in, not in: a dict -/
theorem op_in_dict (hu : X.A.units + 1 < cLine) : OpR X (compareOp .In) (fun x y H Q => ∃ a o, y = .ref a ∧ DGet H a x o ∧ Q (.bl o.isSome) H) := by
  intro pins s σ H x y v u Q I rx ry hq
  obtain ⟨a, o, e, g, q⟩ := hq
  subst e
  obtain rfl : u = Value.ref a := ry
  exact d_in hu I g rx fun s2 I2 => ⟨.bl _, H, I2, rfl, q⟩
theorem op_notin_dict (hu : X.A.units + 1 < cLine) : OpR X (compareOp .NotIn) (fun x y H Q => ∃ a o, y = .ref a ∧ DGet H a x o ∧ Q (.bl (!o.isSome)) H) := by
  intro pins s σ H x y v u Q I rx ry hq
  obtain ⟨a, o, e, g, q⟩ := hq
  subst e
  obtain rfl : u = Value.ref a := ry
  exact d_notIn hu I g rx fun s2 I2 => ⟨.bl _, H, I2, rfl, q⟩
end
/-! ### enumerate of a tuple -/
set_option maxHeartbeats 8000000 in
theorem meets_enum1 {v : Value} {o : Obj} {Y : Heap → Prop} (B : Begins v o Y) : Meets (Builtin.«enumerate.__new__» ⟨[.type "enumerate", v], []⟩) (fun _ R s => Y s.heap ∧
    R (.ok (.ret (.ref (s.heap.push o).objs.size))) { s with heap := (s.heap.push o).push { cls := .type "enumerate", data := .fields #[.none, .bool false, .ref s.heap.objs.size, rawInt 0, .none, .none] } }) :=
  .of_wp fun prog w A R s hy => by
    obtain ⟨hp, gg, dd, kk, oo⟩ := s
    obtain ⟨y1, hy⟩ := hy
    have hs0 := sub_enumerate
    have go : ∀ {A' : Around} {E : Value → Shared → Prop} {Q : Value → Shared → Prop}, Q (.ref hp.objs.size) ⟨hp.push o, gg, dd, kk, oo⟩ → wpAny (model prog w) A' (pyIter v) Q E ⟨hp, gg, dd, kk, oo⟩ := fun q => B.iter prog w _ _ _ _ y1 q
    wp_walk using go
    refine wpAny_stack_any fun stk => wpAny_pure ?_
    split
    · rename_i cc _ _ _ _ _
      cases (cc == Value.type "enumerate") <;> (wp_walk using go; exact ⟨_, rfl, hy⟩)
    · wp_walk using go
      exact ⟨_, rfl, hy⟩
/-- the tuple at a as it stands at each turn, each item in a new pair -/
def IteT (K : PySem.W.Frag) (a : Addr) : L2.It :=
  ⟨fun i H => ∃ (xs : List V) (x : V), SqT K H a xs ∧ xs[i]? = some x, fun i H v H' => ∃ T x, v = .ref T ∧ H T = none ∧ H' = upd H T (.tup [.int (i : Nat), x]) ∧ ∀ xs, SqT K H a xs → xs[i]? = some x, fun i H => ∃ xs : List V, SqT K H a xs ∧ xs.length = i⟩
theorem turn_enumT {P : Program} {w : World} {K : PySem.W.Frag} {elts : List Expr} {kk : Nat} {tpos : Pos} (a e it : Addr) :
    Turn P w K (.Tuple elts kk tpos) (IteT K a) [e, it] e (fun i h => (∃ old, IsEnum h e it ((i : Nat) : Int) old) ∧ h.IsTupleIter it a i ∧ e ≠ it ∧ a ≠ it ∧ a ≠ e) where
  mem := by simp
  obj := fun i h st b hb => by
    obtain ⟨⟨old, he⟩, ⟨o, ho, hc, hd⟩, _⟩ := st
    rcases List.mem_cons.mp hb with z | z
    · rw [z]
      exact ⟨_, he, fun v q => nomatch q⟩
    · rw [List.mem_singleton.mp z]
      exact ⟨o, ho, fun v q => by rw [hd] at q; cases q⟩
  keep := fun i h h' st k => by
    obtain ⟨⟨old, he⟩, hi, hne⟩ := st
    exact ⟨⟨old, k e (by simp) _ he⟩, hi.at fun o q => k it (by simp) o q, hne⟩
  item := by
    intro X hP hw hK hc i pins s σ H E I hf st hg
    subst hP hw hK
    obtain ⟨⟨old, he⟩, hit, hne, hai, hae⟩ := st
    obtain ⟨xs, x, hq, hx⟩ := hg
    obtain ⟨its, rv, p, hz⟩ := I.tuple hq
    obtain ⟨u, hu, ru⟩ := rv.get hx
    have hel : e < s.heap.objs.size := Heap.lt_size he
    have hil : it < s.heap.objs.size := by obtain ⟨_, q, _⟩ := hit; exact Heap.lt_size q
    have D := Draws.tuple (prog := X.prog) (w := X.w) (A := X.A.in1) (I.ok.hd hc) it a hai its.toArray
    refine wpAny_pyNext_enum_itemD (i := i) D he ⟨hit, p⟩ (by have := (List.getElem?_eq_some_iff.mp hu).1; simpa using this) hne (by simp [Ne.symm hae, hne]) fun z h2 tk hz2 ho st2 hT hsz hk => ?_
    have ez : z = u := by
      have q : its[i]? = some z := by simpa using hz2
      rw [hu] at q
      exact (Option.some.inj q).symm
    subst ez
    refine ⟨_, rfl, wpAny_letOwnedTupleGo_enum (s := { s with heap := h2, toks := tk + 1 }) ho fun h3 he3 sb => ?_⟩
    have hT3 : h3.get? s.heap.objs.size = some { cls := .type "tuple", data := .seq #[.int i tk, z] } := (sb.2 _ (Nat.ne_of_gt hel)).trans hT
    have new : ObjOk X.prog X.w (upd H s.heap.objs.size (.tup [.int (i : Nat), x])) h3 s.heap.objs.size (.tup [.int (i : Nat), x]) :=
      ⟨by show 2 ≤ sizeLine; decide, [.int i tk, z], .cons ⟨_, rfl⟩ (.cons ru .nil), ⟨_, hT3, rfl, _, rfl⟩⟩
    have I1 : Inv X pins σ (upd H s.heap.objs.size (.tup [.int (i : Nat), x])) { s with heap := h3, toks := tk + 1 } :=
      I.turnedNew (ch := [e, it]) (fun b ob hb q => (sb.2 b (fun z => hb (by simp [z]))).trans (hk b ob (fun z => hb (by simp [z])) (fun z => hb (by simp [z])) q)) hf (Nat.le_refl _) new
    refine ⟨.ref s.heap.objs.size, _, I1, rfl, ⟨_, x, rfl, I.hok.fresh (Nat.le_refl _), rfl, fun ys hy => by rw [I.tuple_inj hy hq]; exact hx⟩, ⟨⟨z, ?_⟩, st2.1.at fun o q => (sb.2 it (Ne.symm hne)).trans q, hne, hai, hae⟩, fun b hb => ?_⟩
    · rw [show ((i + 1 : Nat) : Int) = (i : Int) + 1 by omega]
      exact he3
    · rw [upd_ne (Nat.ne_of_lt (show b < s.heap.objs.size by
        rcases List.mem_cons.mp hb with q | q
        · rw [q]; exact hel
        · rw [List.mem_singleton.mp q]; exact hil))]
      exact (hf b hb).1
  done := by
    intro X hP hw hK hc i pins s σ H E I hf st hg
    subst hP hw hK
    obtain ⟨⟨old, he⟩, hit, hne, hai, hae⟩ := st
    obtain ⟨xs, hq, hx⟩ := hg
    obtain ⟨its, rv, p, hz⟩ := I.tuple hq
    obtain ⟨f0, f1, f2, f3, f4, f5⟩ := hf it (by simp)
    have D := Draws.tuple (prog := X.prog) (w := X.w) (A := X.A.in1) (I.ok.hd hc) it a hai its.toArray
    have el : its.toArray.size = i := by rw [List.size_toArray, ← rv.length, hx]
    exact wpAny_pyNext_enum_endD D he ⟨by rw [el]; exact hit, p⟩ fun h2 eb => ⟨rfl, I.turned (t' := s.toks) (fun b o hb q => eb b o hb q) f0 f1 f3 f4 f5⟩
  self := fun A i s Q E st hh => by
    obtain ⟨⟨_, he⟩, _⟩ := st
    exact wpAny_pyIter_enum he hh
def iEnumT (K : PySem.W.Frag) (ta : TA) : TI := fun σ H R => ta σ H fun vs H1 => ∃ a xs, vs = [.ref a] ∧ SqT K H1 a xs ∧ R (IteT K a) H1
theorem call_enum1 {prog : Program} {w : World} {A : Around} {E : Value → Shared → Prop} {s : Shared} {v : Value} {o : Obj} {Y : Heap → Prop} {Q : Value → Shared → Prop} (B : Begins v o Y) (y : Y s.heap)
    (q : ∀ h2, IsEnum h2 (s.heap.objs.size + 1) s.heap.objs.size 0 .none → h2.get? s.heap.objs.size = some o → (∀ b u, s.heap.get? b = some u → h2.get? b = some u) → Q (.ref (s.heap.objs.size + 1)) { s with heap := h2 }) :
    wpAny (model prog w) A (call (.type "enumerate") [v]) Q E s := by
  refine callType_new F.called_enumerate (by decide) (F.typeCall_enumerate_1 _) (F.newCall_enumerate_1 _) (fun obj => F.args_object_init_2 obj _) F.entry_enumerate_new (meets_enum1 B) ⟨y, ?_⟩
  have z : (s.heap.push o).objs.size = s.heap.objs.size + 1 := Heap.size_push ..
  have he : IsEnum ((s.heap.push o).push { cls := .type "enumerate", data := .fields #[.none, .bool false, .ref s.heap.objs.size, rawInt 0, .none, .none] }) (s.heap.objs.size + 1) s.heap.objs.size 0 .none := by
    rw [← z]
    exact Heap.get?_push_size _ rfl
  show _ ∧ _
  rw [z]
  exact ⟨⟨_, he, rfl⟩, q _ he (Heap.get?_push_of_some _ (Heap.get?_push_size _ B.free)) fun b u x => Heap.get?_push_of_some _ (Heap.get?_push_of_some _ x)⟩
theorem pi_enumT {X : Cx} {e : Expr} {ta : TA} {p pos tpos : Pos} {elts : List Expr} {kk : Nat} (hg : Gl X "enumerate") (hm : X.mg "enumerate" = none) (ha : PA X [e] ta) (hs : starEach [e] X.env = [(false, eval e X.env)]) :
    PI X (.Tuple elts kk tpos) (.Call (.Name "enumerate" p) [e] [] pos) (iEnumT X.K ta) := by
  refine ⟨fun pins s σ H R I h => Call_ (ld_blt I hg hm boot_enumerate (callWith_type1 (thn (ha.run pos pins s σ H _ I h) fun us s1 ⟨vs, H1, I1, r1, q1⟩ => ?_) hs rfl))⟩
  obtain ⟨a, xs, ex, hq, q⟩ := q1
  rw [ex] at r1
  obtain ⟨u, rfl, rx⟩ := vals1 r1
  obtain rfl : u = Value.ref a := rx
  obtain ⟨its, rv, p', hz⟩ := I1.tuple hq
  have al : a < s1.heap.objs.size := by obtain ⟨o, ho, _⟩ := id p'; exact Heap.lt_size ho
  refine call_enum1 (begins_tuple a its.toArray) p' fun h2 he hit hk => wpAny_pyIter_enum he ?_
  have I2 : Inv X pins σ H1 { s1 with heap := h2 } := I1.kept (t' := s1.toks) hk
  refine ⟨s1.heap.objs.size + 1, [s1.heap.objs.size + 1, s1.heap.objs.size], _, _, H1, rfl, I2, turn_enumT a (s1.heap.objs.size + 1) s1.heap.objs.size, ⟨⟨.none, he⟩, ⟨_, hit, rfl, rfl⟩, Nat.succ_ne_self _, Nat.ne_of_lt al, Nat.ne_of_lt (Nat.lt_succ_of_lt al)⟩, fun b hb => ?_, q⟩
  have hle : s1.heap.objs.size ≤ b := by
    rcases List.mem_cons.mp hb with z | z
    · rw [z]; exact Nat.le_add_right _ _
    · rw [List.mem_singleton.mp z]; exact Nat.le_refl _
  exact I1.fpOk hle (I1.hok.fresh hle)

/-! Mini R2: sets. -/
/-! ### a set of texts and ints, from a tuple -/
def inK (k : Key) (acc : List Key) : Bool := acc.any fun j => decide (j = k)
theorem inK_iff {k : Key} {acc : List Key} : inK k acc = true ↔ k ∈ acc := by
  unfold inK
  rw [List.any_eq_true]
  exact ⟨fun ⟨j, h, e⟩ => of_decide_eq_true e ▸ h, fun h => ⟨k, h, decide_eq_true rfl⟩⟩
def stepK (acc : List Key) (k : Key) : List Key := if inK k acc = true then acc else acc ++ [k]
/-- each once, as it comes first -/
def distL (ks : List Key) : List Key := ks.foldl stepK []
theorem distL_snoc (ks : List Key) (k : Key) : distL (ks ++ [k]) = stepK (distL ks) k := by
  unfold distL
  rw [List.foldl_append] <;> rfl
theorem stepK_mem {acc : List Key} {k j : Key} : j ∈ stepK acc k ↔ j ∈ acc ∨ j = k := by
  unfold stepK
  split
  · rename_i h
    exact ⟨.inl, fun z => z.elim id fun e => by rw [e]; exact inK_iff.mp h⟩
  · rw [List.mem_append, List.mem_singleton]
theorem stepK_in {acc : List Key} {k j : Key} : inK j (stepK acc k) = (inK j acc || decide (j = k)) := by
  rw [Bool.eq_iff_iff, Bool.or_eq_true, decide_eq_true_eq, inK_iff, inK_iff]
  exact stepK_mem
theorem distL_mem {j : Key} (ks : List Key) : j ∈ distL ks ↔ j ∈ ks := by
  suffices h : ∀ (ks acc : List Key), j ∈ ks.foldl stepK acc ↔ j ∈ acc ∨ j ∈ ks by
    unfold distL
    rw [h]
    simp
  intro ks
  induction ks with
  | nil => intro acc; simp
  | cons k ks ih =>
    intro acc
    rw [List.foldl_cons, ih, stepK_mem, List.mem_cons, or_assoc]
theorem stepK_len (acc : List Key) (k : Key) : (stepK acc k).length = if inK k acc = true then acc.length else acc.length + 1 := by
  unfold stepK
  split
  · rfl
  · rw [List.length_append] <;> rfl
theorem distL_le (ks : List Key) : (distL ks).length ≤ ks.length := by
  suffices h : ∀ (ks acc : List Key), (ks.foldl stepK acc).length ≤ acc.length + ks.length by
    have := h ks []
    simpa [distL] using this
  intro ks
  induction ks with
  | nil => intro acc; simp
  | cons k ks ih =>
    intro acc
    rw [List.foldl_cons, List.length_cons]
    refine Nat.le_trans (ih _) ?_
    rw [stepK_len]
    split <;> omega
abbrev HasK (P : Program) (w : World) (h : Heap) (S : Addr) (l : List Key) : Prop := h.SetOf (mixKind P w) S (fun j => inK j l) l.length
theorem HasK.stay {P : Program} {w : World} {h g : Heap} {S : Addr} {l : List Key} (x : HasK P w h S l) (k : ∀ o, h.get? S = some o → g.get? S = some o) : HasK P w g S l := setOf_at x k
theorem HasK.grow {P : Program} {w : World} {h : Heap} {S : Addr} {l : List Key} {k : Key} (x : h.SetOf (mixKind P w) S (fun j => inK j l || decide (j = k)) (if inK k l = true then l.length else l.length + 1)) : HasK P w h S (stepK l k) := by
  unfold HasK
  rw [stepK_len, show (fun j => inK j (stepK l k)) = fun j => inK j l || decide (j = k) from funext fun j => stepK_in]
  exact x
section
variable {P : Program} {w : World} {A : Around} {R : Result → Shared → Prop} {J : Addr} {fp wr : List Addr} {G : Array GenState → Array GenState → Prop} {n : Nat} {Pv : Nat → Value → Prop} {Sx : Nat → Shared → Prop}
/-- set.update's loop over texts and ints -/
theorem set_grows (W : WalksS P w A.in1 J fp wr G n Pv Sx) (S : Addr) (nS : S ∉ fp) (ks : List Key) (hn : n = ks.length) (hv : ∀ i v, Pv i v → ∃ k, ks[i]? = some k ∧ RelV (kV k) v) (few : n + 1 < scanBound) : ∀ (m i : Nat) (s : Shared), n - i = m → i ≤ n → Sx i s →
    HasK P w s.heap S (distL (ks.take i)) → (∀ t, Moved (S :: wr) G s t → HasK P w t.heap S (distL ks) → R (.ok (.ret .none)) t) → codeAny (model P w) A (.builtin "set.update.loop" ⟨[.ref S, .ref J], []⟩) R s
  | 0, i, s, hm, hi, st, hS, fin => by
    obtain rfl : i = n := by omega
    refine codeAny_builtin F.entry_set_update_loop (Around.under_plainId F.plain_set_update_loop _ ▸ (show wpAny _ A.in1 (pyNext (.ref J) >>= _) _ _ s from wpAny_bind (W.done s _ _ st fun t mv => ?_)))
    refine show wpAny _ A.in1 (ret Value.none) _ _ t from wpAny_pure (fin t (mv.mono fun b hb => List.mem_cons_of_mem _ hb) ?_)
    rw [hn, List.take_length] at hS
    exact hS.stay fun o e => mv.heap S o (fun z => nS (W.sub _ z)) e
  | m + 1, i, s, hm, hi, st, hS, fin => by
    have lt : i < n := by omega
    refine codeAny_builtin F.entry_set_update_loop (Around.under_plainId F.plain_set_update_loop _ ▸ (show wpAny _ A.in1 (pyNext (.ref J) >>= _) _ _ s from wpAny_bind (W.item i s _ _ lt st fun v t pv st2 mv => ?_)))
    obtain ⟨k, hk, rk⟩ := hv i v pv
    have hS2 := hS.stay (g := t.heap) fun o e => mv.heap S o (fun z => nS (W.sub _ z)) e
    refine show wpAny _ A.in1 (holding [v] (setAdd S v) >>= _) _ _ t from wpAny_bind (wpAny_holding ?_)
    unfold setAdd
    have room : (distL (ks.take i)).length + 1 < scanBound := by
      have a := distL_le (ks.take i)
      rw [List.length_take] at a
      omega
    refine wpAny_holding (wpAny_bind ((mixKind P w).pyHash (k := k) (kV_is rk) (wpAny_setAddHashed_of (knd := mixKind P w) (s := { t with toks := t.toks + 1 }) (kV_is rk) (key_scan rk) hS2 room fun h2 sb hS3 => ?_)))
    have e : distL (ks.take (i + 1)) = stepK (distL (ks.take i)) k := by rw [List.take_succ, hk] <;> exact distL_snoc _ _
    have hS4 : HasK P w h2 S (distL (ks.take (i + 1))) := by rw [e]; exact HasK.grow hS3
    refine wpAny_pure ⟨plainId_quiet F.plain_set_update_loop _, set_grows W S nS ks hn hv few m (i + 1) _ (by omega) lt (W.frame _ t _ _ st2 (Nat.le_succ _) fun b hb o z => ?_) hS4 fun u mv2 hS5 => ?_⟩
    · exact (sb.2 b fun q => nS (q ▸ hb)).trans z
    · refine fin u (Moved.trans W.gtrans ((mv.mono fun b hb => List.mem_cons_of_mem _ hb).then_heap (Nat.le_succ _) fun b o hb z => ?_) mv2) hS5
      exact (sb.2 b fun q => hb (q ▸ List.mem_cons_self)).trans z
end
section
variable {P : Program} {w : World} {A : Around} {E : Value → Shared → Prop} {s : Shared}
abbrev freshS (led : Bool) : Obj := { cls := .type "set", dict := none, data := .set #[] 0 (.fresh 0 0 led) }
set_option maxHeartbeats 8000000 in
/-- set(t) -/
theorem call_set_tup {l : Addr} {its : Array Value} {ks : List Key} {Q : Value → Shared → Prop} (hh : A.handled = none) (tp : s.heap.IsTuple l its) (rv : Vals (ks.map kV) its.toList) (few : ks.length + 1 < scanBound)
    (q : ∀ (g : Heap) (tk : Nat), HasK P w g s.heap.objs.size (distL ks) → (∀ b o, s.heap.get? b = some o → g.get? b = some o) → Q (.ref s.heap.objs.size) { s with heap := g, toks := tk }) : wpAny (model P w) A (call (.type "set") [.ref l]) Q E s := by
  have CS := F.called_set
  obtain ⟨mc, mt, hmro⟩ := CS.mro
  have m1 := CS.made
  have m2 := CS.sub
  have m3 := CS.notType
  have m4 := CS.canCreate
  have m5 := F.typeCall_set_1 (.ref l)
  refine wpAny_call (codeAny_of_tree (show wpAny _ _ (callAny (.type "set") _) _ _ _ from wpAny_pure ⟨Code.quiet_builtin _ (by decide +kernel), codeAny_builtin F.entry_type_call ?_⟩))
  rw [Around.under_plain (weight_type_call_type "set" [.ref l] []) rfl]
  repeat (any_goals (first | assumption | wp_step))
  have nlen : its.size = ks.length := by have z := rv.length; rw [List.length_map, Array.length_toList] at z; exact z.symm
  refine codeAny_mono (code_set_new_1 (.ref l) (E := E) (Q₁ := fun ob t => ∃ led : Bool, ob = .ref s.heap.objs.size ∧ t = { s with heap := s.heap.push { cls := .type "set", dict := none, data := .set #[] 0 (.fresh 0 0 led) } }) fun led => ⟨led, rfl, rfl⟩) fun r t hr => ?_
  match r, hr with
  | .error e, hr => exact hr
  | .ok .next, hr => exact hr.elim
  | .ok .brk, hr => exact hr.elim
  | .ok .cont, hr => exact hr.elim
  | .ok (.ret ob), hr =>
    obtain ⟨led, e1, e2⟩ := hr
    subst e1 e2
    have hS : (s.heap.push (freshS led)).get? s.heap.objs.size = some (freshS led) := Heap.get?_push_size _ rfl
    have ty : Shared.TypeIs { s with heap := s.heap.push (freshS led) } (.ref s.heap.objs.size) "set" := ⟨_, hS, rfl⟩
    have i1 := CS.init.lookup
    have i2 := CS.init.bind (.ref s.heap.objs.size)
    repeat (any_goals (first | assumption | wp_step))
    refine codeAny_mono (codeAny_call_builtin (R := wants (fun r t => r = .none ∧ ∃ g tk, t = { s with heap := g, toks := tk } ∧ HasK P w g s.heap.objs.size (distL ks) ∧ ∀ b o, s.heap.get? b = some o → g.get? b = some o) E) CS.init.plain F.entry_set_init (check_set_init_1 ty ?_)) fun r t hr => ?_
    · have tp1 : (s.heap.push (freshS led)).IsTuple l its := tp.push _
      obtain ⟨⟨oc, od, odt, osl⟩, ho, hc, nn, hd⟩ := id tp1
      simp only at hc hd
      subst hc hd
      have n1 := F.sub_tuple_set
      have n2 := F.sub_tuple_frozenset
      have n3 : (Value.type "tuple" == Value.type "dict") = false := by decide
      have lt0 : l < s.heap.objs.size := by obtain ⟨_, z, _⟩ := id tp; exact Heap.lt_size z
      unfold Builtin.«set.__init__» noKeywords Builtin.Frozenset.updateFrom
      generalize hPI : pyIter = PI
      wp_walk
      subst hPI
      have sz1 : (s.heap.push (freshS led)).objs.size = s.heap.objs.size + 1 := Heap.size_push ..
      have apart : l ≠ (s.heap.push (freshS led)).objs.size := by rw [sz1]; exact Nat.ne_of_lt (Nat.lt_succ_of_lt lt0)
      refine wpAny_pyIter_tuple tp1 ?_
      refine wpAny_bind (wpAny_runValue ?_)
      refine set_grows ((Walks.tuple (by simp [hh]) _ l apart its).toS) s.heap.objs.size (by rw [sz1]; simp only [List.mem_cons, List.not_mem_nil, or_false, not_or]; exact ⟨Nat.ne_of_lt (Nat.lt_succ_self _), Nat.ne_of_gt lt0⟩) ks nlen (fun i v hv => ?_) (by rw [nlen]; exact few) its.size 0 _ (by omega) (Nat.zero_le _) ⟨⟨_, Heap.get?_push_size _ rfl, rfl, rfl⟩, tp1.push _⟩ ?_ fun u mv hk => ?_
      · have z : its.toList[i]? = some v := by rw [Array.getElem?_toList]; exact hv
        have lt : i < ks.length := by rw [← nlen]; have := (Array.getElem?_eq_some_iff.mp hv).1; exact this
        obtain ⟨u, e, ru⟩ := rv.get (i := i) (x := kV ks[i]) (by simp [lt])
        rw [z] at e
        cases e
        exact ⟨ks[i], by simp [lt], ru⟩
      · have hg := Heap.get?_push_of_some { cls := .type "tuple_iterator", data := .fields #[.ref l, .int 0 0] } hS
        exact ⟨_, #[], 0, _, hg, ⟨rfl, rfl, rfl⟩, rfl, (fun e he => by simp at he), (fun k => by simp [distL, inK]), (by decide), (by rfl), rfl⟩
      · obtain ⟨g, g2, d2, tk, os2⟩ := u
        obtain rfl : g2 = s.gens := mv.gens
        obtain rfl : d2 = s.drawn := mv.drawn
        obtain rfl : os2 = s.os := mv.os
        refine show wpAny _ _ _ _ _ _ from wpAny_pure (show wpAny _ _ (ret Value.none) _ _ _ from wpAny_pure ⟨rfl, g, tk, rfl, hk, fun b o z => ?_⟩)
        have lb : b < s.heap.objs.size := Heap.lt_size z
        refine mv.heap b o ?_ (Heap.get?_push_of_some _ (Heap.get?_push_of_some _ z))
        rw [sz1]
        simp only [List.mem_cons, List.not_mem_nil, or_false, not_or]
        exact ⟨Nat.ne_of_lt lb, Nat.ne_of_lt (Nat.lt_succ_of_lt lb)⟩
    · match r, hr with
      | .error e, hr => exact hr
      | .ok .next, hr => exact hr.elim
      | .ok .brk, hr => exact hr.elim
      | .ok .cont, hr => exact hr.elim
      | .ok (.ret ob), hr =>
        obtain ⟨e1, g, tk, e2, hk, keep⟩ := hr
        subst e1 e2
        repeat (any_goals (first | assumption | wp_step))
        exact q _ _ hk keep
end
section
variable {X : Cx}
/-- len(set(t)) -/
def tLenSetK (K : PySem.W.Frag) (ta : TE) : TE := fun σ H Q => ta σ H fun x H1 => ∃ (l : Addr) (ks : List Key), x = .ref l ∧ SqT K H1 l (ks.map kV) ∧ ks.length + 1 < scanBound ∧ Q (.int (distL ks).length) H1
theorem pe_lenSetK {a : Expr} {ta : TE} {p p2 q pos : Pos} (hc : X.calm = true) (hg : Gl X "len") (hm : X.mg "len" = none) (hg2 : Gl X "set") (hm2 : X.mg "set" = none) (ha : PE X a ta) (na : starEach [a] X.env = (false, eval a X.env) :: starEach [] X.env) :
    PE X (.Call (.Name "len" p) [.Call (.Name "set" p2) [a] [] q] [] pos) (tLenSetK X.K ta) := by
  refine ⟨fun pins s σ H Q I h => Call_ (ld_blt I hg hm boot_len (callWith_builtin1 (args_cons (Call_ (ld_blt I hg2 hm2 boot_set (callWith_type1 (args_cons (thn (ha.run pins s σ H _ I h) fun v t ⟨x, H1, I1, r1, q1⟩ => args_nil ?_) na) na rfl))) rfl) rfl rfl))⟩
  obtain ⟨l, ks, ex, hq, few, q1⟩ := q1
  subst ex
  obtain rfl : v = Value.ref l := r1
  obtain ⟨its, rv, tp, hz⟩ := I1.tuple hq
  refine call_set_tup (ks := ks) (I1.ok.hd hc) tp (by simpa using rv) few fun g tk hk keep => args_nil ?_
  obtain ⟨o, es, ep, tb, ho, hex, hd, _, _, _, hf, hn⟩ := hk
  have I2 : Inv X pins σ H1 { t with heap := g, toks := tk } := I1.kept keep
  exact call_len_set ho hex hd hf (by rw [hn]; have z := distL_le ks; unfold scanBound at few; omega) ⟨.int (distL ks).length, H1, I2.tok _, ⟨_, by rw [hn]⟩, q1⟩
end

/-! Mini R3: a tuple turned about, repr. -/
section
variable {prog : Program} {w : World} {A : Around} {E : Value → Shared → Prop} {s : Shared}
theorem back_places (n : Nat) : Builtin.Slice.sliceAdjust none none (-1) (n : Int) = ((n : Int) - 1, -1) ∧ Builtin.Slice.slicePlaces ((n : Int) - 1) (-1) (-1) = n := by
  refine ⟨rfl, ?_⟩
  unfold Builtin.Slice.slicePlaces
  rw [if_neg (by decide)]
  split
  · have : ((n : Int) - 1 - -1 - 1) / (- -1) + 1 = n := by
      rw [show (- -1 : Int) = 1 by decide, Int.ediv_one]
      omega
    omega
  · omega
theorem pick_back (xs : Array Value) : ((List.range xs.size).filterMap fun (m : Nat) => xs[((xs.size : Int) - 1 + (m : Int) * -1).toNat]?).toArray = xs.toList.reverse.toArray := by
  congr 1
  have e : ∀ n, n ≤ xs.size → ((List.range n).filterMap fun (m : Nat) => xs[((xs.size : Int) - 1 + (m : Int) * -1).toNat]?) = (xs.toList.reverse).take n := by
    intro n
    induction n with
    | zero => intro _; simp
    | succ n ih =>
      intro h
      have lt : xs.size - 1 - n < xs.size := by omega
      have e1 : ((xs.size : Int) - 1 + (n : Int) * -1).toNat = xs.size - 1 - n := by omega
      rw [List.range_succ, List.filterMap_append, ih (by omega), List.take_succ]
      congr 1
      rw [List.getElem?_reverse (by simp; omega)]
      simp only [List.filterMap_cons, List.filterMap_nil, e1, Array.length_toList]
      rw [Array.getElem?_toList]
      cases k : xs[xs.size - 1 - n]? <;> rfl
  rw [e _ (Nat.le_refl _), List.take_of_length_le (by simp)]
theorem getItem_back {t sl : Addr} {its : Array Value} {vs : Value} {Q : Value → Shared → Prop} (tp : IsTup s.heap t its) (hs : s.heap.IsSliceOf sl .none .none vs) (pv : IsPart vs (some (-1))) (z : its.size ≤ sizeLine)
    (h : Q (.ref s.heap.objs.size) { s with heap := s.heap.push { cls := .type "tuple", data := .seq its.toList.reverse.toArray } }) : wpAny (model prog w) A (getItem (.ref t) (.ref sl)) Q E s := by
  have hz : sizeOk (.seq its.toList.reverse.toArray) := by
    show its.toList.reverse.toArray.size ≤ sizeLine
    simpa using z
  obtain ⟨os, ho, hc, hd⟩ := id hs
  have ty : s.TypeIs (.ref sl) "slice" := ⟨os, ho, hc⟩
  unfold getItem
  try with_reducible refine wpAny_holding ?_
  first | refine wpAny_bind (wpAny_pure ?_) | skip
  refine wpAny_bind (wpAny_sequenceKey tp.typeIs (by decide) (wpAny_bind (wpAny_callSpecial?_slot (name := Str.ofString "__getitem__") tp.typeIs slot_tuple_getitem (wpAny_call_entry slot_tuple_getitem tp.typeIs entry_tuple_getitem ?_ (args_tuple_getitem _ _)))))
  refine show wpAny _ _ (Builtin.Tuple.tupleItemsOf (.ref t) >>= _) _ _ s from wpAny_bind (tupleItemsOf_ tp (wpAny_bind (wpAny_typeOf ty ?_)))
  rw [if_pos (by decide)]
  refine wpAny_bind (m := Builtin.Slice.sliceApplied _ _) ?_
  unfold Builtin.Slice.sliceApplied Builtin.Slice.sliceFields
  refine wpAny_bind (wpAny_bind (wpAny_field ho hd (x := .none) rfl (wpAny_bind (wpAny_field ho hd (x := .none) rfl (wpAny_bind (wpAny_field ho hd (x := vs) rfl (wpAny_pure ?_)))))))
  refine wpAny_bind (HT.slicePart_ pv ?_)
  show wpAny _ _ (if ((-1 : Int) == 0) = true then _ else _) _ _ s
  rw [if_neg (by decide)]
  refine wpAny_bind (HT.slicePart_ .none (wpAny_bind (HT.slicePart_ .none (wpAny_bind (wpAny_pure ?_)))))
  obtain ⟨e1, e2⟩ := back_places its.size
  show wpAny _ _ (match Builtin.Slice.sliceAdjust none none (-1) (its.size : Int) with | (lo, hi) => pure (lo, (-1 : Int), Builtin.Slice.slicePlaces lo hi (-1))) _ _ s
  rw [e1]
  refine show wpAny _ _ (pure (((its.size : Int) - 1), (-1 : Int), Builtin.Slice.slicePlaces ((its.size : Int) - 1) (-1) (-1))) _ _ s from ?_
  rw [e2]
  refine wpAny_pure ?_
  show wpAny _ _ (if ((its.size : Int) - 1 == 0 && (-1 : Int) == 1 && its.size == its.size) = true then _ else _) _ _ s
  rw [if_neg (by simp), pick_back]
  first
    | exact wpAny_bind (m := Builtin.Tuple.tupleExact _) (wpAny_newObj_type (wpAny_pure ⟨_, rfl, wpAny_pure h⟩) hz)
    | exact wpAny_bind (m := Builtin.Tuple.tupleExact _) (wpAny_newObj_type (wpAny_bind (wpAny_pure (wpAny_pure ⟨_, rfl, wpAny_pure h⟩))) hz)
    | exact wpAny_bind (wpAny_bind (m := Builtin.Tuple.tupleExact _) (wpAny_newObj_type (wpAny_pure (wpAny_pure ⟨_, rfl, wpAny_pure h⟩)) hz))
    | exact wpAny_bind (wpAny_bind (m := Builtin.Tuple.tupleExact _) (wpAny_newObj_type (wpAny_pure ⟨_, rfl, wpAny_pure h⟩) hz))
end
section
variable {X : Cx}
/-- x[::-1], x a list or a tuple -/
def tRevA (K : PySem.W.Frag) (te : TE) : TE := fun σ H Q => te σ H fun x H1 => ∃ a xs, x = .ref a ∧ ((SqL K H1 a xs ∧ ∀ p, H1 p = none → Q (.ref p) (upd H1 p (.lst xs.reverse))) ∨
  (SqT K H1 a xs ∧ ∀ (p : Addr) (o : Obj), H1 p = none → o.dict = none → Q (.ref p) (upd H1 p (.frz o (.tup xs.reverse)))))
theorem pe_revA {e : Expr} {te : TE} {k : Nat} {p1 p2 p3 pos : Pos} (he : PE X e te) : PE X (.Subscript e (.Slice none none (some (.UnaryOp .USub (.Constant (.int 1) k p1) p2)) p3) pos) (tRevA X.K te) := by
  refine ⟨fun pins s σ H Q I h => Subscript_ (thn (he.run pins s σ H _ I h) fun v s1 ⟨x, H1, I1, r1, a, xs, ex, q⟩ => ?_)⟩
  subst ex
  obtain rfl : v = Value.ref a := r1
  have hst : PO X (some (.UnaryOp .USub (.Constant (.int 1) k p1) p2)) (tPart (tUn (rU fun i => .int (-i)) (tC (.int 1)))) := po_some (pe_un un_neg pe_int)
  refine wpAny_Slice (thn (po_none.run pins s1 σ H1 (fun o H2 => o = none ∧ H2 = H1) I1 ⟨rfl, rfl⟩) fun vl s2 ⟨l, H2, I2, pl, el, e2⟩ => thn (po_none.run pins s2 σ H2 (fun o H3 => o = none ∧ H3 = H2) I2 ⟨rfl, rfl⟩) fun vu s3 ⟨u, H3, I3, pu, eu, e3⟩ => thn (hst.run pins s3 σ H3 (fun o H4 => o = some (-1) ∧ H4 = H3) I3 ⟨1, rfl, -1, rfl, rfl, rfl⟩) fun vs s4 ⟨o, H4, I4, ps, eo, e4⟩ => ?_)
  subst el eu eo e2 e3 e4
  have I5 : Inv X pins σ H4 { s4 with heap := s4.heap.push { cls := .type "slice", data := .fields #[vl, vu, vs] } } := I4.kept (t' := s4.toks) fun b ob z => Heap.get?_push_of_some _ z
  rcases q with ⟨hx, q⟩ | ⟨hx, q⟩
  · obtain ⟨its, rv, tp, hz⟩ := I5.list hx
    have hlen := rv.length
    refine show wpAny (model X.prog X.w) X.A (subscriptTail e (.Slice none none (some (.UnaryOp .USub (.Constant (.int 1) k p1) p2)) p3) (.ref a) (.ref s4.heap.objs.size)) (EP X pins σ Q) X.xe { s4 with heap := s4.heap.push { cls := .type "slice", data := .fields #[vl, vu, vs] } } from ?_
    refine tail_any (ops := [.ref a, .ref s4.heap.objs.size]) tp.isList.typeIs (PySem.slot_list_getitem.lookup) (wpAny_getItem_list_slice tp.isList (Heap.IsSliceOf.new _ vl vu vs) pl pu ps (by decide) ?_ (by rw [List.size_toArray]; omega)) (by with_unfolding_all rfl)
    rw [PySem.W.krv_pick]
    exact ⟨.ref _, _, I5.laid (t' := s4.toks) (o := .lst xs.reverse) (fun b ob z => Heap.get?_push_of_some _ z) (Nat.le_refl _) ⟨by rw [List.length_reverse]; exact hz, _, 0, rv.reverse, Heap.get?_push_size _ rfl⟩, rfl, q _ (I5.hok.fresh (Nat.le_refl _))⟩
  · obtain ⟨its, rv, tp, hz⟩ := I5.tuple hx
    have hlen := rv.length
    obtain rfl : vl = Value.none := by cases pl; rfl
    obtain rfl : vu = Value.none := by cases pu; rfl
    refine show wpAny (model X.prog X.w) X.A (subscriptTail e (.Slice none none (some (.UnaryOp .USub (.Constant (.int 1) k p1) p2)) p3) (.ref a) (.ref s4.heap.objs.size)) (EP X pins σ Q) X.xe { s4 with heap := s4.heap.push { cls := .type "slice", data := .fields #[.none, .none, vs] } } from ?_
    refine tail_any (ops := [.ref a, .ref s4.heap.objs.size]) tp.typeIs slot_tuple_getitem.lookup (getItem_back tp (Heap.IsSliceOf.new _ .none .none vs) ps (by rw [List.size_toArray]; omega) ?_) (by with_unfolding_all rfl)
    generalize hn : its.toArray.toList.reverse.toArray = new
    have rn : Vals xs.reverse new.toList := by
      rw [← hn]
      simpa using rv.reverse
    refine ⟨.ref _, _, I5.laid (t' := s4.toks) (o := .frz { cls := .type "tuple", data := .seq new } (.tup xs.reverse)) (fun b ob z => Heap.get?_push_of_some _ z) (Nat.le_refl _) ⟨Heap.get?_push_size _ rfl, by rw [List.length_reverse]; exact hz, new.toList, rn, ?_⟩, rfl, q _ _ (I5.hok.fresh (Nat.le_refl _)) rfl⟩
    rw [Array.toArray_toList]
    exact IsTup.new _ _
end

/-! Mini R4: a tuple, a text so many times. -/
section
variable {X : Cx}
def rRepF (K : PySem.W.Frag) : R2 := fun x y H Q => ∃ (l : Addr) (k : Int) (xs : List V), x = .ref l ∧ y = .int k ∧ SqT K H l xs ∧ xs ≠ [] ∧ 2 ≤ k ∧ k ≤ 100000 ∧ xs.length ≤ 100 ∧
  ∀ (p : Addr) (o : Obj), H p = none → o.dict = none → Q (.ref p) (upd H p (.frz o (.tup (List.replicate k.toNat xs).flatten)))
theorem op_repF : OpR X (binaryOp .Mult) (rRepF X.K) := by
  intro pins s σ H x y v u Q I rx ry want
  obtain ⟨l, k, xs, rfl, rfl, lies, ne, k2, kM, few, q⟩ := want
  cases rx
  obtain ⟨tk, rfl⟩ := ry
  obtain ⟨cells, rel, ⟨⟨cl, dc, dt, so⟩, at1, cl1, n1, dt1⟩, _⟩ := I.tuple lies
  simp only at cl1 dt1
  subst cl1 dt1
  have same : cells.length = xs.length := rel.length.symm
  have pos : 0 < xs.length := List.length_pos_iff.mpr ne
  have full : cells.toArray.isEmpty = false := by
    match cells, same with
    | [], e => simp at e; omega
    | c :: r, _ => rfl
  have size : cells.toArray.size = xs.length := by rw [List.size_toArray]; exact same
  have many : ((cells.toArray.size : Nat) : Int) * k ≤ 10000000 := by
    rw [size]
    have := Int.mul_le_mul_of_nonneg_right (show ((xs.length : Nat) : Int) ≤ 100 by omega) (show (0 : Int) ≤ k by omega)
    omega
  have nat : k.toNat * xs.length ≤ 100000 * 100 := Nat.mul_le_mul (by omega) few
  have len : (List.replicate k.toNat cells).flatten.length ≤ sizeLine := by
    rw [PyProof.Rows.lm_len_rep_flat, same, sizeLine_eq]
    omega
  have d0 : (decide (k < -(2 ^ 63)) || decide (k ≥ 2 ^ 63)) = false := by
    rw [decide_eq_false (by omega), decide_eq_false (by omega)]
    rfl
  have d1 : (cells.toArray.isEmpty || k == 1) = false := by
    rw [full]
    exact beq_eq_false_iff_ne.mpr (by omega)
  have d2 : (decide (k ≤ 0) || cells.toArray.isEmpty) = false := by
    rw [full, decide_eq_false (by omega)]
    rfl
  have d4 : Builtin.Tuple.tupleTooMany (((cells.toArray.size : Nat) : Int) * k) = false := by
    unfold Builtin.Tuple.tupleTooMany
    rw [sizeLine_eq]
    exact decide_eq_false (by omega)
  have made := tuple_mulW l cells.toArray n1 dc so k tk d0 d1 d2 (by omega) d4 (by rw [size_rep, List.size_toArray]; exact len)
  refine wpAny_binaryOp_repeat_ref (T := "tuple") (U := "int") (by decide) ⟨_, at1, rfl⟩ (fun s2 => typeIs_int s2 k tk) noFill_tuple_mul F.fills_int_mul F.slot_int_rmul repeat_tuple F.slot_int_index.lookup ?_
  refine call_meets F.slot_int_rmul (typeIs_int s k tk) F.entry_int_rmul (F.args_int_rmul_2 _ _) (int_rmul_tuple k tk l cells.toArray n1 dc so) ⟨at1, rfl, ⟨_, at1, rfl⟩, ?_⟩
  refine call_meets F.slot_tuple_mul ⟨_, at1, rfl⟩ F.entry_tuple_mul (F.args_tuple_mul_2 _ _) made ⟨at1, ?_⟩
  rw [size_rep]
  have lay := I.laid (t' := s.toks) (a := s.heap.objs.size) (o := .frz { cls := .type "tuple", data := .seq (List.replicate k.toNat cells).flatten.toArray } (.tup (List.replicate k.toNat xs).flatten)) (fun b ob z => Heap.get?_push_of_some _ z) (Nat.le_refl _)
    ⟨Heap.get?_push_size _ rfl, by rw [PyProof.Rows.lm_len_rep_flat, sizeLine_eq]; omega, _, rel.rep k.toNat, IsTup.new _ _⟩
  exact ⟨.ref s.heap.objs.size, _, lay, rfl, q _ _ (I.hok.fresh (Nat.le_refl _)) rfl⟩
/-- a text so many times -/
def repS (z : Str) (k : Int) : Str := ⟨(List.replicate k.toNat z.cps).foldl (· ++ ·) #[]⟩
theorem repS_list (z : Str) (k : Int) : (repS z k).cps.toList = (List.replicate k.toNat z.cps.toList).flatten := by
  have key : ∀ (n : Nat) (acc : Array Nat), ((List.replicate n z.cps).foldl (· ++ ·) acc).toList = acc.toList ++ (List.replicate n z.cps.toList).flatten := by
    intro n
    induction n with
    | zero => intro acc; simp
    | succ n ih =>
      intro acc
      rw [List.replicate_succ, List.foldl_cons, ih, List.replicate_succ, List.flatten_cons, Array.toList_append, List.append_assoc]
  have := key k.toNat #[]
  simpa [repS] using this
theorem repS_len (z : Str) (k : Int) : (repS z k).length = k.toNat * z.length := by
  show (repS z k).cps.size = _
  rw [← Array.length_toList, repS_list, PyProof.Rows.lm_len_rep_flat, Array.length_toList]
  rfl
def rMulS : R2 := fun x y H Q => ∃ (z : Str) (k : Int), x = .str z ∧ y = .int k ∧ 2 ≤ k ∧ k ≤ 100000 ∧ 0 < z.length ∧ z.length ≤ 100 ∧ Q (.str (repS z k)) H
theorem op_mulS : OpR X (binaryOp .Mult) rMulS := by
  intro pins s σ H x y v u Q I rx ry want
  obtain ⟨z, k, rfl, rfl, k2, kM, z0, zM, q⟩ := want
  obtain ⟨t1, rfl⟩ := rx
  obtain ⟨t2, rfl⟩ := ry
  have nat : k.toNat * z.length ≤ 100000 * 100 := Nat.mul_le_mul (by omega) zM
  have small : (z.length : Int) ≤ (2 ^ 63 - 1) / k := by
    have a : (100 : Int) ≤ (2 ^ 63 - 1) / 100000 := by decide
    have b : ((2 : Int) ^ 63 - 1) / 100000 ≤ (2 ^ 63 - 1) / k := by
      apply Int.le_ediv_of_mul_le (by omega)
      have c := Int.mul_le_mul_of_nonneg_left (show k ≤ 100000 by omega) (show (0 : Int) ≤ (2 ^ 63 - 1) / 100000 by decide)
      have d : ((2 : Int) ^ 63 - 1) / 100000 * 100000 ≤ 2 ^ 63 - 1 := by decide
      omega
    omega
  have n1 : ¬ k < 1 := by omega
  have n2 : (k == 1 || z.length == 0) = false := by
    rw [Bool.or_eq_false_iff]
    exact ⟨beq_eq_false_iff_ne.mpr (by omega), beq_eq_false_iff_ne.mpr (by omega)⟩
  refine P.mul_str (by rw [decide_eq_false (by omega), decide_eq_false (by omega)]; rfl) (fun _ _ => by omega) (fun _ _ => ?_) ?_
  · unfold Builtin.Str.tooLong
    rw [sizeLine_eq, Nat.mul_comm]
    exact decide_eq_false (by omega)
  · rw [if_neg n1, if_neg (by rw [n2]; exact Bool.false_ne_true)]
    have l : (repS z k).length ≤ sizeLine := by
      rw [repS_len, sizeLine_eq]
      omega
    exact ⟨l, .str (repS z k), H, I.tok _, ⟨_, rfl⟩, q⟩
end

/-! Mini 1: data as trees, shared things by number, and how they lie in the abstract heap. -/

/-- a value of the program: numbers, texts, tuples and lists as trees; ref n: the n-th shared thing that may still be written -/
inductive D where
  | non | bl (b : Bool) | int (i : Int) | str (x : Str)
  | tup (xs : List D) | lst (xs : List D) | ref (n : Nat)
  /-- a tuple that a walk hands out (enumerate, zip) -/
  | wtup (xs : List D)
  /-- a dict with texts as keys, never written any more -/
  | dict (ks : List Str) (ds : List D)
  /-- a def as a value: its number, its name -/
  | fn (j : Nat) (x : Str)

/-- a shared thing -/
inductive MO where
  | lst (xs : List D)
  | gone
abbrev Hm := List MO
abbrev Sg := List (Option D)

/-- a tuple, a list as it lies: tracked and not written any more, or the module's own -/
def LieT (K : PySem.W.Frag) (H : Hp) (M : Addr → Prop) (a : Addr) (vs : List V) : Prop :=
  (∃ o, H a = some (.frz o (.tup vs)) ∧ o.dict = none ∧ ¬ M a) ∨
    ∃ (o : Obj) (its : Array Value) (n : Nat), K.lookup a = some o ∧ o.cls = .type "tuple" ∧ o.dict = none ∧ o.data = .seq its n ∧ its.size ≤ sizeLine ∧ Vals vs its.toList
def LieW (K : PySem.W.Frag) (H : Hp) (M : Addr → Prop) (a : Addr) (vs : List V) : Prop := Rd H a (.tup vs) ∧ ¬ M a
def LieL (K : PySem.W.Frag) (H : Hp) (M : Addr → Prop) (a : Addr) (vs : List V) : Prop :=
  (Rd H a (.lst vs) ∧ ¬ M a) ∨
    ∃ (o : Obj) (its : Array Value) (n : Nat), K.lookup a = some o ∧ o.cls = .type "list" ∧ o.dict = none ∧ o.data = .seq its n ∧ its.size ≤ sizeLine ∧ Vals vs its.toList
/-- texts as keys -/
def kz (ks : List Str) (vs : List V) : List (Key × V) := (ks.map Sum.inr).zip vs
def LieK (H : Hp) (M : Addr → Prop) (a : Addr) (ks : List Str) (vs : List V) : Prop := Rd H a (.dK (kz ks vs)) ∧ ¬ M a ∧ ks.length = vs.length
theorem LieT.sq {K : PySem.W.Frag} {H : Hp} {M : Addr → Prop} {a : Addr} {vs : List V} (h : LieT K H M a vs) : SqT K H a vs := by
  rcases h with ⟨o, h, _, _⟩ | ⟨o, its, n, h1, h2, _, h3, h4, h5⟩
  · exact .inl (.inr ⟨o, h⟩)
  · exact .inr ⟨o, its, n, h1, h2, h3, h4, h5⟩
theorem LieW.sq {K : PySem.W.Frag} {H : Hp} {M : Addr → Prop} {a : Addr} {vs : List V} (h : LieW K H M a vs) : SqT K H a vs := .inl h.1
theorem LieL.sq {K : PySem.W.Frag} {H : Hp} {M : Addr → Prop} {a : Addr} {vs : List V} (h : LieL K H M a vs) : SqL K H a vs := h.imp (·.1) id

mutual
inductive RD (K : PySem.W.Frag) (H : Hp) (ρ : List Addr) (M : Addr → Prop) : D → V → Prop
  | non : RD K H ρ M .non .non
  | bl (b : Bool) : RD K H ρ M (.bl b) (.bl b)
  | int (i : Int) : RD K H ρ M (.int i) (.int i)
  | str (x : Str) : RD K H ρ M (.str x) (.str x)
  | tup {a : Addr} {xs : List D} {vs : List V} : LieT K H M a vs → RDs K H ρ M xs vs → RD K H ρ M (.tup xs) (.ref a)
  | lst {a : Addr} {xs : List D} {vs : List V} : LieL K H M a vs → RDs K H ρ M xs vs → RD K H ρ M (.lst xs) (.ref a)
  | ref {n : Nat} {a : Addr} : ρ[n]? = some a → RD K H ρ M (.ref n) (.ref a)
  | wtup {a : Addr} {xs : List D} {vs : List V} : LieW K H M a vs → RDs K H ρ M xs vs → RD K H ρ M (.wtup xs) (.ref a)
  | dict {a : Addr} {ks : List Str} {xs : List D} {vs : List V} : LieK H M a ks vs → RDs K H ρ M xs vs → RD K H ρ M (.dict ks xs) (.ref a)
  | fn {a : Addr} {j : Nat} {x : Str} : PySem.W.nsIn K mainGlobals x = some (some (.ref a)) → RD K H ρ M (.fn j x) (.ref a)
inductive RDs (K : PySem.W.Frag) (H : Hp) (ρ : List Addr) (M : Addr → Prop) : List D → List V → Prop
  | nil : RDs K H ρ M [] []
  | cons {d : D} {v : V} {ds : List D} {vs : List V} : RD K H ρ M d v → RDs K H ρ M ds vs → RDs K H ρ M (d :: ds) (v :: vs)
end

section
variable {K : PySem.W.Frag} {H H' : Hp} {ρ ρ' : List Addr} {M M' : Addr → Prop}
/-- what keeps all that lies -/
structure Kps (H : Hp) (ρ : List Addr) (M : Addr → Prop) (H' : Hp) (ρ' : List Addr) (M' : Addr → Prop) : Prop where
  obj : ∀ a o, H a = some o → ¬ M a → H' a = some o ∧ ¬ M' a
  ref : ∀ (n : Nat) (a : Addr), ρ[n]? = some a → ρ'[n]? = some a
theorem Kps.rd (k : Kps H ρ M H' ρ' M') {a : Addr} {u : HO} (h : Rd H a u) (n : ¬ M a) : Rd H' a u ∧ ¬ M' a := by
  rcases h with h | ⟨o, h⟩
  · obtain ⟨h1, h2⟩ := k.obj _ _ h n
    exact ⟨.inl h1, h2⟩
  · obtain ⟨h1, h2⟩ := k.obj _ _ h n
    exact ⟨.inr ⟨o, h1⟩, h2⟩
theorem LieT.mono (k : Kps H ρ M H' ρ' M') {a : Addr} {vs : List V} (h : LieT K H M a vs) : LieT K H' M' a vs := by
  rcases h with ⟨o, h, d, n⟩ | h
  · obtain ⟨h1, h2⟩ := k.obj _ _ h n
    exact .inl ⟨o, h1, d, h2⟩
  · exact .inr h
theorem LieW.mono (k : Kps H ρ M H' ρ' M') {a : Addr} {vs : List V} (h : LieW K H M a vs) : LieW K H' M' a vs := k.rd h.1 h.2
theorem LieK.mono (k : Kps H ρ M H' ρ' M') {a : Addr} {ks : List Str} {vs : List V} (h : LieK H M a ks vs) : LieK H' M' a ks vs := ⟨(k.rd h.1 h.2.1).1, (k.rd h.1 h.2.1).2, h.2.2⟩
theorem LieL.mono (k : Kps H ρ M H' ρ' M') {a : Addr} {vs : List V} (h : LieL K H M a vs) : LieL K H' M' a vs := by
  rcases h with ⟨h, n⟩ | h
  · exact .inl (k.rd h n)
  · exact .inr h
mutual
theorem RD.mono (k : Kps H ρ M H' ρ' M') : ∀ {d : D} {v : V}, RD K H ρ M d v → RD K H' ρ' M' d v
  | .non, _, h => by cases h; exact .non
  | .bl _, _, h => by cases h; exact .bl _
  | .int _, _, h => by cases h; exact .int _
  | .str _, _, h => by cases h; exact .str _
  | .tup xs, _, h => by
    cases h with
    | tup l r => exact .tup (l.mono k) (RDs.mono k r)
  | .lst xs, _, h => by
    cases h with
    | lst l r => exact .lst (l.mono k) (RDs.mono k r)
  | .ref n, _, h => by
    cases h with
    | ref e => exact .ref (k.ref _ _ e)
  | .wtup xs, _, h => by
    cases h with
    | wtup l r => exact .wtup (l.mono k) (RDs.mono k r)
  | .dict ks xs, _, h => by
    cases h with
    | dict l r => exact .dict (l.mono k) (RDs.mono k r)
  | .fn j x, _, h => by
    cases h with
    | fn e => exact .fn e
theorem RDs.mono (k : Kps H ρ M H' ρ' M') : ∀ {ds : List D} {vs : List V}, RDs K H ρ M ds vs → RDs K H' ρ' M' ds vs
  | [], _, h => by cases h; exact .nil
  | d :: ds, _, h => by
    cases h with
    | cons a b => exact .cons (RD.mono k a) (RDs.mono k b)
end
theorem RDs.length : ∀ {ds : List D} {vs : List V}, RDs K H ρ M ds vs → ds.length = vs.length
  | [], _, h => by cases h; rfl
  | d :: ds, _, h => by
    cases h with
    | cons a b => simp [RDs.length b]
theorem RDs.get : ∀ {ds : List D} {vs : List V} {i : Nat} {d : D}, RDs K H ρ M ds vs → ds[i]? = some d → ∃ v, vs[i]? = some v ∧ RD K H ρ M d v
  | [], _, _, _, _, e => by simp at e
  | d :: ds, _, 0, _, h, e => by
    cases h with
    | cons a b =>
      have e' : d = _ := Option.some.inj e
      subst e'
      exact ⟨_, rfl, a⟩
  | d :: ds, _, i + 1, _, h, e => by
    cases h with
    | cons a b =>
      obtain ⟨v, h1, h2⟩ := RDs.get (i := i) b (by simpa using e)
      exact ⟨v, by simpa using h1, h2⟩
theorem RDs.get' : ∀ {ds : List D} {vs : List V} {i : Nat} {v : V}, RDs K H ρ M ds vs → vs[i]? = some v → ∃ d, ds[i]? = some d ∧ RD K H ρ M d v
  | _, [], _, _, _, e => by simp at e
  | _, v :: vs, 0, _, h, e => by
    cases h with
    | cons a b =>
      have e' : v = _ := Option.some.inj e
      subst e'
      exact ⟨_, rfl, a⟩
  | _, v :: vs, i + 1, _, h, e => by
    cases h with
    | cons a b =>
      obtain ⟨d, h1, h2⟩ := RDs.get' (i := i) b (by simpa using e)
      exact ⟨d, by simpa using h1, h2⟩
theorem RDs.append : ∀ {ds es : List D} {vs ws : List V}, RDs K H ρ M ds vs → RDs K H ρ M es ws → RDs K H ρ M (ds ++ es) (vs ++ ws)
  | [], _, _, _, h, g => by cases h; exact g
  | d :: ds, _, _, _, h, g => by
    cases h with
    | cons a b => exact .cons a (RDs.append b g)
theorem RDs.take : ∀ {ds : List D} {vs : List V} (n : Nat), RDs K H ρ M ds vs → RDs K H ρ M (ds.take n) (vs.take n)
  | _, _, 0, _ => by simp; exact .nil
  | [], _, _ + 1, h => by cases h; exact .nil
  | d :: ds, _, n + 1, h => by
    cases h with
    | cons a b => exact .cons a (RDs.take n b)
theorem RDs.drop : ∀ {ds : List D} {vs : List V} (n : Nat), RDs K H ρ M ds vs → RDs K H ρ M (ds.drop n) (vs.drop n)
  | _, _, 0, h => h
  | [], _, _ + 1, h => by cases h; exact .nil
  | d :: ds, _, n + 1, h => by
    cases h with
    | cons a b => exact RDs.drop n b
theorem RDs.set : ∀ {ds : List D} {vs : List V} (i : Nat) {d : D} {v : V}, RDs K H ρ M ds vs → RD K H ρ M d v → RDs K H ρ M (ds.set i d) (vs.set i v)
  | [], _, _, _, _, h, _ => by cases h; exact .nil
  | x :: ds, _, 0, _, _, h, r => by
    cases h with
    | cons a b => exact .cons r b
  | x :: ds, _, i + 1, _, _, h, r => by
    cases h with
    | cons a b => exact .cons a (RDs.set i b r)
theorem RDs.reverse : ∀ {ds : List D} {vs : List V}, RDs K H ρ M ds vs → RDs K H ρ M ds.reverse vs.reverse
  | [], _, h => by cases h; exact .nil
  | d :: ds, _, h => by
    cases h with
    | cons a b =>
      rw [List.reverse_cons, List.reverse_cons]
      exact RDs.append (RDs.reverse b) (.cons a .nil)
end

/-! ### the state -/
/-- what may still be written -/
def Mu (ρ : List Addr) (h : Hm) : Addr → Prop := fun a => ∃ (n : Nat) (o : MO), ρ[n]? = some a ∧ h[n]? = some o ∧ o ≠ MO.gone
def RO (K : PySem.W.Frag) (H : Hp) (ρ : List Addr) (M : Addr → Prop) : MO → Addr → Prop
  | .lst xs, a => ∃ vs, H a = some (.lst vs) ∧ RDs K H ρ M xs vs
  | .gone, a => ∃ u, H a = some u
structure HR (K : PySem.W.Frag) (h : Hm) (ρ : List Addr) (H : Hp) : Prop where
  len : ρ.length = h.length
  nd : ρ.Nodup
  obj : ∀ (n : Nat) (o : MO) (a : Addr), h[n]? = some o → ρ[n]? = some a → RO K H ρ (Mu ρ h) o a
/-- the slots -/
structure SlR (K : PySem.W.Frag) (H : Hp) (ρ : List Addr) (M : Addr → Prop) (σ : Sg) (σV : L2.St) : Prop where
  len : σ.length = σV.length
  get : ∀ (i : Nat) (d : D), σ[i]? = some (some d) → ∃ v, σV[i]? = some (some v) ∧ RD K H ρ M d v
structure SR (K : PySem.W.Frag) (σ : Sg) (h : Hm) (ρ : List Addr) (σV : L2.St) (H : Hp) : Prop where
  hp : HR K h ρ H
  sl : SlR K H ρ (Mu ρ h) σ σV
abbrev Rel (K : PySem.W.Frag) (h : Hm) (ρ : List Addr) (H : Hp) : D → V → Prop := RD K H ρ (Mu ρ h)
abbrev Rels (K : PySem.W.Frag) (h : Hm) (ρ : List Addr) (H : Hp) : List D → List V → Prop := RDs K H ρ (Mu ρ h)
abbrev Kp (h : Hm) (ρ : List Addr) (H : Hp) (h' : Hm) (ρ' : List Addr) (H' : Hp) : Prop := Kps H ρ (Mu ρ h) H' ρ' (Mu ρ' h')
theorem Kps.refl {H : Hp} {ρ : List Addr} {M : Addr → Prop} : Kps H ρ M H ρ M := ⟨fun _ _ h n => ⟨h, n⟩, fun _ _ h => h⟩
theorem Kps.trans {H1 H2 H3 : Hp} {ρ1 ρ2 ρ3 : List Addr} {M1 M2 M3 : Addr → Prop} (a : Kps H1 ρ1 M1 H2 ρ2 M2) (b : Kps H2 ρ2 M2 H3 ρ3 M3) : Kps H1 ρ1 M1 H3 ρ3 M3 :=
  ⟨fun c o h n => let ⟨x, y⟩ := a.obj c o h n; b.obj c o x y, fun n c h => b.ref n c (a.ref n c h)⟩
theorem SlR.mono {K : PySem.W.Frag} {H H' : Hp} {ρ ρ' : List Addr} {M M' : Addr → Prop} {σ : Sg} {σV : L2.St} (k : Kps H ρ M H' ρ' M') (h : SlR K H ρ M σ σV) : SlR K H' ρ' M' σ σV :=
  ⟨h.len, fun i d e => let ⟨v, a, b⟩ := h.get i d e; ⟨v, a, b.mono k⟩⟩
theorem SlR.set {K : PySem.W.Frag} {H : Hp} {ρ : List Addr} {M : Addr → Prop} {σ : Sg} {σV : L2.St} {i : Nat} {d : D} {v : V} (h : SlR K H ρ M σ σV) (r : RD K H ρ M d v) : SlR K H ρ M (σ.set i (some d)) (σV.set i (some v)) := by
  refine ⟨by simp [h.len], fun j e hj => ?_⟩
  by_cases hij : i = j
  · subst hij
    rw [List.getElem?_set] at hj
    simp only [if_true] at hj
    split at hj
    · rename_i hl
      have e' : d = e := by simpa using hj
      subst e'
      exact ⟨v, by rw [List.getElem?_set_self (by rw [← h.len]; exact hl)], r⟩
    · cases hj
  · rw [List.getElem?_set_ne hij] at hj
    obtain ⟨w, a, b⟩ := h.get j e hj
    exact ⟨w, by rw [List.getElem?_set_ne hij]; exact a, b⟩
/-- slots forgotten -/
def wipeD (σ : Sg) : List Nat → Sg
  | [] => σ
  | v :: vs => (wipeD σ vs).set v none
theorem SlR.none {K : PySem.W.Frag} {H : Hp} {ρ : List Addr} {M : Addr → Prop} {σ : Sg} {σV : L2.St} {i : Nat} (h : SlR K H ρ M σ σV) : SlR K H ρ M (σ.set i none) (σV.set i none) := by
  refine ⟨by simp [h.len], fun j e hj => ?_⟩
  by_cases hij : i = j
  · subst hij
    rw [List.getElem?_set] at hj
    simp only [if_true] at hj
    split at hj <;> simp at hj
  · rw [List.getElem?_set_ne hij] at hj
    obtain ⟨w, a, b⟩ := h.get j e hj
    exact ⟨w, by rw [List.getElem?_set_ne hij]; exact a, b⟩
theorem SlR.wipe {K : PySem.W.Frag} {H : Hp} {ρ : List Addr} {M : Addr → Prop} {σ : Sg} {σV : L2.St} (h : SlR K H ρ M σ σV) : ∀ vs : List Nat, SlR K H ρ M (wipeD σ vs) (L2.wipe σV vs)
  | [] => h
  | v :: vs => by
    unfold wipeD L2.wipe
    exact (SlR.wipe h vs).none

/-! ### steps of the heap -/
section
variable {K : PySem.W.Frag} {H : Hp} {ρ : List Addr} {h : Hm}
theorem HR.mu {a : Addr} (r : HR K h ρ H) (m : Mu ρ h a) : ∃ vs, H a = some (.lst vs) := by
  obtain ⟨n, o, e1, e2, e3⟩ := m
  have z := r.obj n o a e2 e1
  cases o with
  | gone => exact absurd rfl e3
  | lst xs =>
    obtain ⟨vs, e, _⟩ := z
    exact ⟨vs, e⟩
theorem HR.fresh {p : Addr} (r : HR K h ρ H) (e : H p = none) : ¬ Mu ρ h p := fun m => by
  obtain ⟨vs, q⟩ := r.mu m
  rw [e] at q; cases q
/-- a new thing that is never written -/
theorem Kp.new {p : Addr} {o : HO} (r : HR K h ρ H) (e : H p = none) : Kp h ρ H h ρ (upd H p o) :=
  ⟨fun a u q n => ⟨by rw [upd_ne (ne_of_none q e)]; exact q, n⟩, fun _ _ q => q⟩
theorem ix_of_nodup {l : List Addr} (nd : l.Nodup) {i j : Nat} {a : Addr} (h1 : l[i]? = some a) (h2 : l[j]? = some a) : i = j := by
  obtain ⟨q1, e1⟩ := List.getElem?_eq_some_iff.mp h1
  obtain ⟨q2, e2⟩ := List.getElem?_eq_some_iff.mp h2
  exact (List.getElem_inj nd).mp (e1.trans e2.symm)
theorem mu_gone {n : Nat} {a : Addr} (nd : ρ.Nodup) (e1 : h[n]? = some .gone) (e2 : ρ[n]? = some a) : ¬ Mu ρ h a := by
  rintro ⟨m, o, q1, q2, q3⟩
  have := ix_of_nodup nd q1 e2
  subst this
  rw [e1] at q2
  cases q2
  exact q3 rfl
theorem HR.mono {H' : Hp} (r : HR K h ρ H) (k : Kp h ρ H h ρ H') (kl : ∀ a vs, Mu ρ h a → H a = some (.lst vs) → H' a = some (.lst vs)) : HR K h ρ H' := by
  refine ⟨r.len, r.nd, fun n o a e1 e2 => ?_⟩
  have z := r.obj n o a e1 e2
  cases o with
  | gone =>
    obtain ⟨u, q⟩ := z
    exact ⟨u, (k.obj a u q (mu_gone r.nd e1 e2)).1⟩
  | lst xs =>
    obtain ⟨vs, e, q⟩ := z
    exact ⟨vs, kl a vs ⟨n, _, e2, e1, by intro z; cases z⟩ e, q.mono k⟩
theorem HR.new {p : Addr} {o : HO} (r : HR K h ρ H) (e : H p = none) : HR K h ρ (upd H p o) :=
  r.mono (Kp.new r e) fun a vs _ q => by rw [upd_ne (ne_of_none q e)]; exact q
theorem SR.new {σ : Sg} {σV : L2.St} {p : Addr} {o : HO} (s : SR K σ h ρ σV H) (e : H p = none) : SR K σ h ρ σV (upd H p o) := ⟨s.hp.new e, s.sl.mono (Kp.new s.hp e)⟩
/-- a new thing that may be written -/
theorem mu_push {p a : Addr} {o : MO} (hl : ρ.length = h.length) (m : Mu (ρ ++ [p]) (h ++ [o]) a) : Mu ρ h a ∨ a = p := by
  obtain ⟨n, u, e1, e2, e3⟩ := m
  by_cases hn : n < h.length
  · rw [List.getElem?_append_left (by omega)] at e1
    rw [List.getElem?_append_left hn] at e2
    exact .inl ⟨n, u, e1, e2, e3⟩
  · right
    rw [List.getElem?_append_right (by omega)] at e1
    have : n - ρ.length = 0 := by
      cases k : n - ρ.length with
      | zero => rfl
      | succ k' => rw [k] at e1; simp at e1
    rw [this] at e1
    exact (Option.some.inj e1).symm
theorem Kp.push {p : Addr} {xs : List D} {vs : List V} (r : HR K h ρ H) (e : H p = none) : Kp h ρ H (h ++ [.lst xs]) (ρ ++ [p]) (upd H p (.lst vs)) := by
  refine ⟨fun a u q n => ⟨by rw [upd_ne (ne_of_none q e)]; exact q, fun m => ?_⟩, fun n a q => ?_⟩
  · rcases mu_push r.len m with m | rfl
    · exact n m
    · rw [e] at q; cases q
  · have hn : n < ρ.length := (List.getElem?_eq_some_iff.mp q).1
    rw [List.getElem?_append_left hn]
    exact q
theorem HR.notin {p : Addr} (r : HR K h ρ H) (e : H p = none) : p ∉ ρ := fun m => by
  obtain ⟨n, hn⟩ := List.getElem?_of_mem m
  have hl : n < h.length := by rw [← r.len]; exact (List.getElem?_eq_some_iff.mp hn).1
  have z := r.obj n h[n] p (by simp [hl]) hn
  cases k : h[n] with
  | gone =>
    rw [k] at z
    obtain ⟨u, q⟩ := z
    rw [e] at q; cases q
  | lst xs =>
    rw [k] at z
    obtain ⟨vs, q, _⟩ := z
    rw [e] at q; cases q
theorem HR.push {p : Addr} {xs : List D} {vs : List V} (r : HR K h ρ H) (e : H p = none) (q : Rels K h ρ H xs vs) : HR K (h ++ [.lst xs]) (ρ ++ [p]) (upd H p (.lst vs)) := by
  have kp : Kp h ρ H (h ++ [.lst xs]) (ρ ++ [p]) (upd H p (.lst vs)) := Kp.push r e
  refine ⟨by simp [r.len], ?_, fun n o a e1 e2 => ?_⟩
  · rw [List.nodup_append]
    exact ⟨r.nd, by simp, fun a ha b hb z => by
      have hb' : b = p := by simpa using hb
      subst z
      subst hb'
      exact r.notin e ha⟩
  · by_cases hn : n < h.length
    · rw [List.getElem?_append_left hn] at e1
      rw [List.getElem?_append_left (by rw [r.len]; exact hn)] at e2
      have z := r.obj n o a e1 e2
      cases o with
      | gone =>
        obtain ⟨u, z⟩ := z
        exact ⟨u, by rw [upd_ne (ne_of_none z e)]; exact z⟩
      | lst ys =>
        obtain ⟨ws, z, z2⟩ := z
        exact ⟨ws, by rw [upd_ne (ne_of_none z e)]; exact z, z2.mono kp⟩
    · rw [List.getElem?_append_right (by omega)] at e1
      rw [List.getElem?_append_right (by rw [r.len]; omega)] at e2
      have hz : n - h.length = 0 := by
        cases k : n - h.length with
        | zero => rfl
        | succ k' => rw [k] at e1; simp at e1
      rw [hz] at e1
      rw [r.len, hz] at e2
      have ea : p = a := by simpa using e2
      have eo : MO.lst xs = o := by simpa using e1
      subst ea
      subst eo
      exact ⟨vs, upd_same, q.mono kp⟩
theorem mu_set {n : Nat} {o : MO} {a b : Addr} (e : ρ[n]? = some a) (h1 : ∃ o', h[n]? = some o' ∧ o' ≠ .gone) (m : Mu ρ (h.set n o) b) : Mu ρ h b := by
  obtain ⟨k, u, q1, q2, q3⟩ := m
  by_cases hk : n = k
  · subst hk
    obtain ⟨o', z1, z2⟩ := h1
    exact ⟨n, o', q1, z1, z2⟩
  · rw [List.getElem?_set_ne hk] at q2
    exact ⟨k, u, q1, q2, q3⟩
/-- a shared thing is written -/
theorem Kp.write {n : Nat} {a : Addr} {xs ys : List D} {ws : List V} (e : ρ[n]? = some a) (h1 : h[n]? = some (.lst xs)) : Kp h ρ H (h.set n (.lst ys)) ρ (upd H a (.lst ws)) := by
  refine ⟨fun b u q m => ⟨?_, fun z => m (mu_set e ⟨_, h1, by intro z; cases z⟩ z)⟩, fun _ _ q => q⟩
  rw [upd_ne]
  · exact q
  · rintro rfl
    exact m ⟨n, _, e, h1, by intro z; cases z⟩
theorem HR.write {n : Nat} {a : Addr} {xs ys : List D} {ws : List V} (r : HR K h ρ H) (e : ρ[n]? = some a) (h1 : h[n]? = some (.lst xs)) (q : Rels K h ρ H ys ws) : HR K (h.set n (.lst ys)) ρ (upd H a (.lst ws)) := by
  have kp : Kp h ρ H (h.set n (.lst ys)) ρ (upd H a (.lst ws)) := Kp.write e h1
  refine ⟨by simp [r.len], r.nd, fun k o b e1 e2 => ?_⟩
  by_cases hk : n = k
  · subst hk
    rw [e] at e2
    cases e2
    have hn : n < h.length := (List.getElem?_eq_some_iff.mp h1).1
    rw [List.getElem?_set_self hn] at e1
    cases e1
    exact ⟨ws, upd_same, q.mono kp⟩
  · rw [List.getElem?_set_ne hk] at e1
    have ne : b ≠ a := fun z => by
      subst z
      exact hk (ix_of_nodup r.nd e e2)
    have z := r.obj k o b e1 e2
    cases o with
    | gone =>
      obtain ⟨u, z⟩ := z
      exact ⟨u, by rw [upd_ne ne]; exact z⟩
    | lst zs =>
      obtain ⟨us, z, z2⟩ := z
      exact ⟨us, by rw [upd_ne ne]; exact z, z2.mono kp⟩
/-- a shared thing is closed: never written again -/
theorem Kp.close {n : Nat} {a : Addr} {xs : List D} (e : ρ[n]? = some a) (h1 : h[n]? = some (.lst xs)) : Kp h ρ H (h.set n .gone) ρ H :=
  ⟨fun b u q m => ⟨q, fun z => m (mu_set e ⟨_, h1, by intro z; cases z⟩ z)⟩, fun _ _ q => q⟩
theorem HR.close {n : Nat} {a : Addr} {xs : List D} (r : HR K h ρ H) (e : ρ[n]? = some a) (h1 : h[n]? = some (.lst xs)) : HR K (h.set n .gone) ρ H ∧ Rel K (h.set n .gone) ρ H (.lst xs) (.ref a) := by
  have kp : Kp h ρ H (h.set n .gone) ρ H := Kp.close e h1
  have hn : n < h.length := (List.getElem?_eq_some_iff.mp h1).1
  obtain ⟨vs, q1, q2⟩ := r.obj n _ a h1 e
  refine ⟨⟨by simp [r.len], r.nd, fun k o b e1 e2 => ?_⟩, .lst (.inl ⟨.inl q1, ?_⟩) (q2.mono kp)⟩
  · by_cases hk : n = k
    · subst hk
      rw [e] at e2
      cases e2
      rw [List.getElem?_set_self hn] at e1
      cases e1
      exact ⟨_, q1⟩
    · rw [List.getElem?_set_ne hk] at e1
      have z := r.obj k o b e1 e2
      cases o with
      | gone => exact z
      | lst zs =>
        obtain ⟨us, z, z2⟩ := z
        exact ⟨us, z, z2.mono kp⟩
  · exact mu_gone r.nd (by rw [List.getElem?_set_self hn]) e
end

/-! Mini 2: the small language, and what its parts come to. -/

inductive Res (α : Type) where
  | ok (a : α) (h : Hm)
  | stuck
def Res.bind {α β : Type} : Res α → (α → Hm → Res β) → Res β
  | .ok a h, f => f a h
  | .stuck, _ => .stuck
@[simp] theorem Res.bind_ok {α β : Type} (a : α) (h : Hm) (f : α → Hm → Res β) : (Res.ok a h).bind f = f a h := rfl
@[simp] theorem Res.bind_stuck {α β : Type} (f : α → Hm → Res β) : (Res.stuck : Res α).bind f = .stuck := rfl
def Res.guard {α : Type} (b : Bool) (r : Res α) : Res α := match b with | true => r | false => .stuck
@[simp] theorem Res.guard_true {α : Type} (r : Res α) : Res.guard true r = r := rfl
@[simp] theorem Res.guard_false {α : Type} (r : Res α) : Res.guard false r = .stuck := rfl

inductive Op2 where
  | add | sub | mul | fdiv | mod | pow | addM
  deriving DecidableEq
inductive Cm where
  | lt | le | gt | ge | eq | ne | isin | notin
  deriving DecidableEq
inductive Ty where
  | int | bool | str | tuple | list
  deriving DecidableEq
inductive Bi where
  | len | abs | int | tuple | list | all | any | sum | max2 | min2 | str | sorted | repr
  deriving DecidableEq
inductive Mt where
  | append | popAt | index
  deriving DecidableEq

inductive Tg where
  | v (i : Nat)
  | tup (is : List Nat)

mutual
inductive Ex where
  | v (i : Nat)
  | non | bl (b : Bool) | int (i : Int) | str (x : Str)
  | glob (g : Nat)
  | op2 (o : Op2) (a b : Ex)
  | neg (a : Ex)
  | cmp (o : Cm) (a b : Ex)
  | chain (o1 o2 : Cm) (a b c : Ex)
  | isN (a : Ex) | notN (a : Ex)
  | isB (ng : Bool) (a : Ex) (b : Bool)
  | band (a b : Ex) | bor (a b : Ex) | bnot (a : Ex)
  | ifx (c a b : Ex)
  | tup (es : Exs) | lst (es : Exs) | lstM (es : Exs)
  | ix (a i : Ex)
  | slice (a : Ex) (lo hi : Eo)
  | rev (a : Ex)
  | call (f : Nat) (es : Exs)
  | callk (f : Nat) (es kes : Exs) (perm : List Nat)
  | isi (a : Ex) (t : Ty)
  | isiT (a : Ex) (ts : List Ty)
  | bi (b : Bi) (es : Exs)
  | meth (m : Mt) (r : Ex) (es : Exs)
  | lenset (a : Ex)
  | rngs (lst : Bool) (a b : Ex)
  | dct (kvs : List (Str × Int))
  | dget (d k f : Ex)
  | dix (d k : Ex)
  | fnv (j : Nat) (x : Str)
  | callv (i : Nat) (ops : List (Nat × Str)) (es : Exs)
  | comp (mu : Bool) (own : List (Str × Nat)) (tg : Tg) (it : It) (cond : Exs) (elt : Ex)
inductive Exs where
  | nil
  | cons (e : Ex) (es : Exs)
/-- what is walked -/
inductive It where
  | ex (e : Ex) | rng1 (a : Ex) | rng2 (a b : Ex) | rvs (e : Ex) | enm (e : Ex) | enmT (e : Ex) | sgn (e : Ex) | zp (a b : Ex)
/-- an end of a slice -/
inductive Eo where
  | none
  | some (e : Ex)
end

mutual
inductive Stm where
  | set (i : Nat) (e : Ex)
  | asg (is : List Nat) (e : Ex)
  | par (i j : Nat) (a b : Ex)
  | par3 (i j l : Nat) (a b d : Ex)
  | setix (o i : Ex) (e : Ex)
  | ex (e : Ex)
  | ret (e : Ex)
  | ife (c : Ex) (a b : Blk)
  | for_ (tg : Tg) (it : It) (b : Blk)
  | while_ (c : Ex) (b : Blk)
  | brk | cont | pass
  | freeze (i : Nat)
  | never
inductive Blk where
  | nil
  | cons (s : Stm) (b : Blk)
end

/-! ### plain data -/
mutual
def toPy : D → Option PyData
  | .non => some .none
  | .bl b => some (.bool b)
  | .int i => some (.int i)
  | .str x => some (.str x)
  | .tup xs => (toPys xs).map .tuple
  | .lst xs => (toPys xs).map .list
  | .ref _ => none
  | .wtup _ => none
  | .dict _ _ => none
  | .fn _ _ => none
def toPys : List D → Option (List PyData)
  | [] => some []
  | x :: xs => match toPy x, toPys xs with
    | some p, some ps => some (p :: ps)
    | _, _ => none
end
def listOf? (h : Hm) (n : Nat) : Option (List D) := match h[n]? with
  | some (.lst xs) => some xs
  | _ => none
def toPyH (h : Hm) : D → Option PyData
  | .ref n => ((listOf? h n).bind toPys).map .list
  | d => toPy d
/-- the items of a list or tuple -/
def itemsOf (h : Hm) : D → Option (List D)
  | .tup xs => some xs
  | .lst xs => some xs
  | .ref n => listOf? h n
  | _ => none
abbrev LIM : Nat := 16777216

def mulOk (i j : Int) : Bool := decide (i.natAbs.log2 + j.natAbs.log2 < 1000000) || (decide (-(2 ^ 64) < i) && decide (i < 2 ^ 64)) || (decide (-(2 ^ 64) < j) && decide (j < 2 ^ 64))
def divOk (j : Int) : Bool := decide (j ≠ 0) && decide (j.natAbs.log2 < 9000)
def powOk (i j : Int) : Bool := decide (0 ≤ j) && decide (j ≤ 1000000) && decide (i.natAbs < 2 ^ 64)

/-- so many times -/
def repOk (n : Nat) (k : Int) : Bool := decide (0 < n) && decide (n ≤ 100) && decide (2 ≤ k) && decide (k ≤ 100000)
/-- the items of a list -/
def lstOf (h : Hm) : D → Option (List D)
  | .lst xs => some xs
  | .ref n => listOf? h n
  | _ => none
def tupOf : D → Option (List D)
  | .tup xs => some xs
  | _ => none
/-- list + list, tuple + tuple -/
def catD (mu : Bool) (d e : D) (h : Hm) : Res D := match lstOf h d, lstOf h e with
  | some xs, some ys => .guard (decide (xs.length + ys.length ≤ LIM)) (match mu with
    | true => .ok (.ref h.length) (h ++ [.lst (xs ++ ys)])
    | false => .ok (.lst (xs ++ ys)) h)
  | _, _ => match tupOf d, tupOf e with
    | some xs, some ys => .guard (!mu && decide (xs.length + ys.length ≤ LIM)) (.ok (.tup (xs ++ ys)) h)
    | _, _ => .stuck
def opD : Op2 → D → D → Hm → Res D
  | .add, .int i, .int j, h => .ok (.int (i + j)) h
  | .add, .str x, .str y, h => .guard (decide (x.length + y.length ≤ LIM)) (.ok (.str (x ++ y)) h)
  | .add, d, e, h => catD false d e h
  | .addM, d, e, h => catD true d e h
  | .sub, .int i, .int j, h => .ok (.int (i - j)) h
  | .mul, .int i, .int j, h => .guard (mulOk i j) (.ok (.int (i * j)) h)
  | .mul, .tup xs, .int k, h => .guard (repOk xs.length k) (.ok (.tup (List.replicate k.toNat xs).flatten) h)
  | .mul, .str x, .int k, h => .guard (repOk x.length k) (.ok (.str (repS x k)) h)
  | .fdiv, .int i, .int j, h => .guard (divOk j) (.ok (.int (i.fdiv j)) h)
  | .mod, .int i, .int j, h => .guard (decide (0 < j)) (.ok (.int (i % j)) h)
  | .pow, .int i, .int j, h => .guard (powOk i j) (.ok (.int (i ^ j.toNat)) h)
  | _, _, _, _ => .stuck

def eqD (a b : D) (h : Hm) : Res Bool := match toPyH h a, toPyH h b with
  | some p, some q => .guard (SeqAt.shaped p && SeqAt.shaped q) (.ok (PyData.eqv p q) h)
  | _, _ => .stuck
/-- == of flat values -/
def flatD : D → Bool
  | .non => true
  | .bl _ => true
  | .int _ => true
  | .str _ => true
  | _ => false
def eqFD : D → D → Bool
  | .non, .non => true
  | .bl a, .bl b => a == b
  | .bl a, .int b => (if a then 1 else 0) == b
  | .int a, .bl b => a == (if b then 1 else 0)
  | .int a, .int b => a == b
  | .str a, .str b => a == b
  | _, _ => false
/-- what stands under a text -/
def lookD : List Str → List D → Str → Option D
  | k :: ks, d :: ds, x => if k = x then some d else lookD ks ds x
  | _, _, _ => none
def inD (a b : D) (h : Hm) : Res Bool := match b with
  | .dict ks ds => match a with
    | .str x => .ok (lookD ks ds x).isSome h
    | _ => .stuck
  | _ => match itemsOf h b with
    | some ys => .guard (flatD a && ys.all flatD) (.ok (ys.any fun y => eqFD y a) h)
    | none => .stuck
def cmpD : Cm → D → D → Hm → Res Bool
  | .eq, a, b, h => eqD a b h
  | .ne, a, b, h => (eqD a b h).bind fun c h => .ok (!c) h
  | .lt, .int i, .int j, h => .ok (decide (i < j)) h
  | .le, .int i, .int j, h => .ok (decide (i ≤ j)) h
  | .gt, .int i, .int j, h => .ok (decide (j < i)) h
  | .ge, .int i, .int j, h => .ok (decide (j ≤ i)) h
  | .isin, a, b, h => inD a b h
  | .notin, a, b, h => (inD a b h).bind fun c h => .ok (!c) h
  | .lt, .str x, .str y, h => .ok (decide (x.cps.toList < y.cps.toList)) h
  | .le, .str x, .str y, h => .ok (!decide (y.cps.toList < x.cps.toList)) h
  | _, _, _, _ => .stuck
def isNonD : D → Bool
  | .non => true
  | _ => false
def trD : D → Hm → Res Bool
  | .bl b, h => .ok b h
  | _, _ => .stuck
def tyD : Ty → D → Bool
  | .int, .int _ => true
  | .int, .bl _ => true
  | .bool, .bl _ => true
  | .str, .str _ => true
  | .tuple, .tup _ => true
  | .tuple, .wtup _ => true
  | .list, .lst _ => true
  | .list, .ref _ => true
  | _, _ => false
def ixD : D → D → Hm → Res D
  | .str x, .int i, h => match atI x.cps.toList i with
    | some c => .guard (decide (x.length ≤ LIM)) (.ok (.str ⟨#[c]⟩) h)
    | none => .stuck
  | d, .int i, h => match itemsOf h d with
    | some xs => match atI xs i with
      | some y => .ok y h
      | none => .stuck
    | none => .stuck
  | _, _, _ => .stuck
/-- a value whose type may be asked -/
def openD (h : Hm) : D → Bool
  | .ref n => (listOf? h n).isSome
  | .dict _ _ => false
  | .fn _ _ => false
  | _ => true
def boolsOf : List D → Option (List Bool)
  | [] => some []
  | .bl b :: r => (boolsOf r).map (b :: ·)
  | _ :: _ => none
def intsOf : List D → Option (List Int)
  | [] => some []
  | .int b :: r => (intsOf r).map (b :: ·)
  | _ :: _ => none

/-- pairs of ints -/
def pairsOf : List D → Option (List (Int × Int))
  | [] => some []
  | .tup [.int i, .int j] :: r => (pairsOf r).map ((i, j) :: ·)
  | _ :: _ => none
def unpairs (ps : List (Int × Int)) : List D := ps.map fun p => .tup [.int p.1, .int p.2]
def insP (p : Int × Int) : List (Int × Int) → List (Int × Int)
  | [] => [p]
  | q :: r => if SrtO.lexB q p then q :: insP p r else p :: q :: r
def sortP : List (Int × Int) → List (Int × Int)
  | [] => []
  | p :: r => insP p (sortP r)
/-- sorted, of plain data that can be compared -/
def alikeB (ps : List PyData) : Bool := ps.all fun p => ps.all fun q => PySem.W.alike p q
def nonTup : PyData → Bool
  | .none => false
  | .tuple _ => false
  | _ => true
def someTup : PyData → Bool
  | .tuple (_ :: _) => true
  | _ => false
def sortD (es : List D) (ps : List PyData) : List D := ((es.zip ps).mergeSort (PySem.W.dataLe false fun b => b.2)).map fun b => b.1
def dataR (es : List D) (h : Hm) : Res D := match toPys es with
  | some ps => .guard (alikeB ps && (ps.all nonTup || ps.all someTup) && (ps.all fun p => decide (p.depth ≤ 60)) && decide (es.length ≤ 1000)) (.ok (.lst (sortD es ps)) h)
  | none => .stuck
def sortedR (es : List D) (h : Hm) : Res D := match pairsOf es with
  | some ps => .ok (.lst (unpairs (sortP ps))) h
  | none => dataR es h
/-- a list or tuple -/
def isSq : D → Bool
  | .tup _ => true
  | .lst _ => true
  | .ref _ => true
  | _ => false
def reprD (d : D) (h : Hm) : Res D := match isSq d, toPyH h d with
  | true, some p => .guard (p.showable && !p.hasDict && decide (p.depth ≤ 60) && decide (p.shown.length ≤ LIM)) (.ok (.str p.shown) h)
  | _, _ => .stuck
def biD : Bi → List D → Hm → Res D
  | .len, [.str x], h => .guard (decide (x.length ≤ LIM)) (.ok (.int x.length) h)
  | .len, [d], h => match itemsOf h d with
    | some xs => .ok (.int xs.length) h
    | none => .stuck
  | .abs, [.int i], h => .ok (.int (if i < 0 then -i else i)) h
  | .int, [.int i], h => .ok (.int i) h
  | .int, [.bl b], h => .ok (.int (if b then 1 else 0)) h
  | .tuple, [.tup xs], h => .ok (.tup xs) h
  | .tuple, [d], h => match itemsOf h d with
    | some xs => .ok (.tup xs) h
    | none => .stuck
  | .list, [d], h => match itemsOf h d with
    | some xs => .ok (.lst xs) h
    | none => .stuck
  | .all, [d], h => match (lstOf h d).bind boolsOf with
    | some bs => .ok (.bl (bs.all id)) h
    | none => .stuck
  | .any, [d], h => match (lstOf h d).bind boolsOf with
    | some bs => .ok (.bl (bs.any id)) h
    | none => .stuck
  | .sum, [d], h => match (lstOf h d).bind intsOf with
    | some bs => .ok (.int bs.sum) h
    | none => .stuck
  | .sorted, [d], h => match lstOf h d with
    | some es => sortedR es h
    | none => .stuck
  | .max2, [.int i, .int j], h => .ok (.int (if j > i then j else i)) h
  | .min2, [.int i, .int j], h => .ok (.int (if j < i then j else i)) h
  | .repr, [d], h => reprD d h
  | .str, [.int i], h => .guard (decide (i.natAbs.log2 < 1920)) (.ok (.str (Str.ofString (toString i))) h)
  | _, _, _ => .stuck

def strsOf : List D → Option (List Str)
  | [] => some []
  | .str b :: r => (strsOf r).map (b :: ·)
  | _ :: _ => none
/-- the first place -/
def idxOf (x : Str) : List Str → Option Nat
  | [] => none
  | y :: ys => if y = x then some 0 else (idxOf x ys).map (· + 1)
def mtD : Mt → D → List D → Hm → Res D
  | .append, .ref n, [x], h => match listOf? h n with
    | some xs => .guard (decide (xs.length < LIM)) (.ok .non (h.set n (.lst (xs ++ [x]))))
    | none => .stuck
  | .popAt, .ref n, [.int i], h => match listOf? h n with
    | some xs => match (if 0 ≤ i ∧ i < xs.length then xs[i.toNat]? else none) with
      | some y => .ok y (h.set n (.lst (xs.eraseIdx i.toNat)))
      | none => .stuck
    | none => .stuck
  | .index, .tup xs, [.str x], h => match (strsOf xs).bind (idxOf x) with
    | some j => .ok (.int j) h
    | none => .stuck
  | _, _, _, _ => .stuck

/-- what may be asked -/
def rcvD : Mt → D → Hm → Bool
  | .append, .ref n, h => (listOf? h n).isSome
  | .popAt, .ref n, h => (listOf? h n).isSome
  | .index, .tup _, _ => true
  | _, _, _ => false
/-- the values of the names of a target -/
def setAll : List Nat → List D → Sg → Option Sg
  | [], [], σ => some σ
  | i :: is, d :: ds, σ => setAll is ds (σ.set i (some d))
  | _, _, _ => none
def asgD : Tg → D → Sg → Option Sg
  | .v i, d, σ => some (σ.set i (some d))
  | .tup is, .tup xs, σ => setAll is xs σ
  | .tup is, .wtup xs, σ => setAll is xs σ
  | .tup is, .lst xs, σ => setAll is xs σ
  | .tup _, _, _ => none

/-- the list that stands at n grows by what f tells of the items -/
def compLoop (f : D → Hm → Res (Option D)) (n : Nat) : List D → Hm → Res Unit
  | [], h => .ok () h
  | x :: xs, h => (f x h).bind fun o h1 => match o with
    | some y => match listOf? h1 n with
      | some acc => .guard (decide (acc.length < LIM)) (compLoop f n xs (h1.set n (.lst (acc ++ [y]))))
      | none => .stuck
    | none => compLoop f n xs h1
mutual
/-- all shared things within are of the first n -/
def belowD (n : Nat) : D → Bool
  | .tup xs => belowDs n xs
  | .lst xs => belowDs n xs
  | .wtup xs => belowDs n xs
  | .dict _ xs => belowDs n xs
  | .ref k => decide (k < n)
  | _ => true
def belowDs (n : Nat) : List D → Bool
  | [] => true
  | x :: xs => belowD n x && belowDs n xs
end
open Classical in
/-- behind a comprehension its list is closed; it is forgotten where nothing else has changed -/
noncomputable def endC (h1 h2 : Hm) (ys : List D) : Hm := if (h2.take h1.length = h1 ∧ h2.length = h1.length + 1) ∧ belowDs h1.length ys = true then h1 else h2.set h1.length .gone

def rngD (lo : Int) : Nat → List D
  | 0 => []
  | n + 1 => .int lo :: rngD (lo + 1) n
def smallI (i : Int) : Bool := decide (i.natAbs < 2 ^ 62)
/-- the signs of a text -/
def signsD (x : Str) : List D := x.cps.toList.map fun c => .str ⟨#[c]⟩
def itD : D → Hm → Res (List D)
  | .tup xs, h => .ok xs h
  | .lst xs, h => .ok xs h
  | _, _ => .stuck
def itSD : D → Hm → Res (List D)
  | .str x, h => .ok (signsD x) h
  | _, _ => .stuck
/-- each key once -/
def distS (xs : List Key) : Nat := (distL xs).length
def keyOf : D → Option Key
  | .int i => some (.inl i)
  | .str x => some (.inr x)
  | _ => none
def keysOf : List D → Option (List Key)
  | [] => some []
  | d :: r => match keyOf d, keysOf r with
    | some k, some ks => some (k :: ks)
    | _, _ => none
def rgOkB (i j : Int) : Bool := smallI i && smallI j && decide ((j - i).toNat ≤ LIM)
def rngsD (lst : Bool) : D → D → Hm → Res D
  | .int i, .int j, h => .guard (rgOkB i j) (.ok (if lst then .lst (rngD i (j - i).toNat) else .tup (rngD i (j - i).toNat)) h)
  | _, _, _ => .stuck
def dgetD : D → D → D → Hm → Res D
  | .dict ks ds, .str x, z, h => .ok ((lookD ks ds x).getD z) h
  | _, _, _, _ => .stuck
def dixD : D → D → Hm → Res D
  | .dict ks ds, .str x, h => match lookD ks ds x with
    | some d => .ok d h
    | none => .stuck
  | _, _, _ => .stuck
def lensetD : D → Hm → Res D
  | .tup xs, h => match keysOf xs with
    | some ks => .guard (decide (ks.length ≤ 1000)) (.ok (.int (distS ks)) h)
    | none => .stuck
  | _, _ => .stuck
structure Gam where
  fn : Nat → Option (List D → Hm → Res D)
  gl : Nat → Option D

def cutL {α : Type} (xs : List α) (lo hi : Option Int) : List α := (xs.drop (HT.sIx xs.length 0 lo)).take (HT.sIx xs.length xs.length hi - HT.sIx xs.length 0 lo)
def cutD (d : D) (lo hi : Option Int) (h : Hm) : Res D := match d with
  | .lst xs => .ok (.lst (cutL xs lo hi)) h
  | .tup xs => .ok (.tup (cutL xs lo hi)) h
  | .ref n => match listOf? h n with
    | some xs => .ok (.lst (cutL xs lo hi)) h
    | none => .stuck
  | .str x => .guard (decide (x.length ≤ LIM)) (.ok (.str (cutS x lo hi)) h)
  | _ => .stuck
def revD (d : D) (h : Hm) : Res D := match d with
  | .tup xs => .ok (.tup xs.reverse) h
  | d => match lstOf h d with
    | some xs => .ok (.lst xs.reverse) h
    | none => .stuck
def isDictD : D → Bool
  | .dict _ _ => true
  | _ => false
def zipD : List D → List D → List D
  | x :: xs, y :: ys => .wtup [x, y] :: zipD xs ys
  | _, _ => []
def enumD : Nat → List D → List D
  | _, [] => []
  | k, x :: xs => .wtup [.int k, x] :: enumD (k + 1) xs

/-- the values by their places -/
def permV (perm : List Nat) {α : Type} (d : α) (us ws : List α) : List α := perm.map fun i => (us ++ ws).getD i d
noncomputable section
mutual
def evE (Γ : Gam) : Ex → Sg → Hm → Res D
  | .v i, σ, h => match σ[i]? with
    | some (some d) => .ok d h
    | _ => .stuck
  | .non, _, h => .ok .non h
  | .bl b, _, h => .ok (.bl b) h
  | .int i, _, h => .ok (.int i) h
  | .str x, _, h => .ok (.str x) h
  | .glob g, _, h => match Γ.gl g with
    | some d => .ok d h
    | none => .stuck
  | .op2 o a b, σ, h => (evE Γ a σ h).bind fun x h1 => (evE Γ b σ h1).bind fun y h2 => opD o x y h2
  | .neg a, σ, h => (evE Γ a σ h).bind fun x h1 => match x with
    | .int i => .ok (.int (-i)) h1
    | _ => .stuck
  | .cmp o a b, σ, h => (evE Γ a σ h).bind fun x h1 => (evE Γ b σ h1).bind fun y h2 => (cmpD o x y h2).bind fun c h3 => .ok (.bl c) h3
  | .chain o1 o2 a b c, σ, h => (evE Γ a σ h).bind fun x h1 => (evE Γ b σ h1).bind fun y h2 => (cmpD o1 x y h2).bind fun t h3 =>
    match t with
    | true => (evE Γ c σ h3).bind fun z h4 => (cmpD o2 y z h4).bind fun u h5 => .ok (.bl u) h5
    | false => .ok (.bl false) h3
  | .isN a, σ, h => (evE Γ a σ h).bind fun x h1 => .ok (.bl (isNonD x)) h1
  | .notN a, σ, h => (evE Γ a σ h).bind fun x h1 => .ok (.bl (!isNonD x)) h1
  | .isB ng a b, σ, h => (evE Γ a σ h).bind fun x h1 => match x with
    | .bl c => .ok (.bl (ng ^^ decide (c = b))) h1
    | _ => .stuck
  | .band a b, σ, h => (evE Γ a σ h).bind fun x h1 => match x with
    | .bl true => evE Γ b σ h1
    | .bl false => .ok (.bl false) h1
    | _ => .stuck
  | .bor a b, σ, h => (evE Γ a σ h).bind fun x h1 => match x with
    | .bl true => .ok (.bl true) h1
    | .bl false => evE Γ b σ h1
    | _ => .stuck
  | .bnot a, σ, h => (evE Γ a σ h).bind fun x h1 => match x with
    | .bl c => .ok (.bl (!c)) h1
    | _ => .stuck
  | .ifx c a b, σ, h => (evT Γ c σ h).bind fun t h1 => match t with
    | true => evE Γ a σ h1
    | false => evE Γ b σ h1
  | .tup es, σ, h => (evEs Γ es σ h).bind fun ds h1 => .guard (decide (ds.length ≤ LIM)) (.ok (.tup ds) h1)
  | .lst es, σ, h => (evEs Γ es σ h).bind fun ds h1 => .guard (decide (ds.length ≤ LIM)) (.ok (.lst ds) h1)
  | .lstM es, σ, h => (evEs Γ es σ h).bind fun ds h1 => .guard (decide (ds.length ≤ LIM)) (.ok (.ref h1.length) (h1 ++ [.lst ds]))
  | .ix a i, σ, h => (evE Γ a σ h).bind fun x h1 => (evE Γ i σ h1).bind fun y h2 => ixD x y h2
  | .slice a lo hi, σ, h => (evE Γ a σ h).bind fun x h1 => (evO Γ lo σ h1).bind fun l h2 => (evO Γ hi σ h2).bind fun u h3 => cutD x l u h3
  | .rev a, σ, h => (evE Γ a σ h).bind fun x h1 => revD x h1
  | .lenset a, σ, h => (evE Γ a σ h).bind lensetD
  | .rngs l a b, σ, h => (evE Γ a σ h).bind fun x h1 => (evE Γ b σ h1).bind fun y h2 => rngsD l x y h2
  | .dct kvs, _, h => .ok (.dict (kvs.map (·.1)) (kvs.map fun p => .int p.2)) h
  | .dget d k f, σ, h => (evE Γ d σ h).bind fun x h1 => .guard (isDictD x) ((evE Γ k σ h1).bind fun y h2 => (evE Γ f σ h2).bind fun z h3 => dgetD x y z h3)
  | .dix d k, σ, h => (evE Γ d σ h).bind fun x h1 => (evE Γ k σ h1).bind fun y h2 => dixD x y h2
  | .fnv j x, _, h => match Γ.fn j with
    | some _ => .ok (.fn j x) h
    | none => .stuck
  | .callv i ops es, σ, h => match σ[i]? with
    | some (some (.fn j x)) => .guard (decide ((j, x) ∈ ops)) ((evEs Γ es σ h).bind fun ds h1 => match Γ.fn j with
      | some den => den ds h1
      | none => .stuck)
    | _ => .stuck
  | .call f es, σ, h => (evEs Γ es σ h).bind fun ds h1 => match Γ.fn f with
    | some den => den ds h1
    | none => .stuck
  | .callk f es kes perm, σ, h => (evEs Γ es σ h).bind fun ds h1 => (evEs Γ kes σ h1).bind fun ks h2 => match Γ.fn f with
    | some den => den (permV perm D.non ds ks) h2
    | none => .stuck
  | .isi a t, σ, h => (evE Γ a σ h).bind fun x h1 => .guard (openD h1 x) (.ok (.bl (tyD t x)) h1)
  | .isiT a ts, σ, h => (evE Γ a σ h).bind fun x h1 => .guard (openD h1 x) (.ok (.bl (ts.any fun t => tyD t x)) h1)
  | .bi b es, σ, h => (evEs Γ es σ h).bind fun ds h1 => biD b ds h1
  | .meth m r es, σ, h => (evE Γ r σ h).bind fun x h1 => .guard (rcvD m x h1) ((evEs Γ es σ h1).bind fun ds h2 => mtD m x ds h2)
  | .comp mu own tg it cond elt, σ, h => (evI Γ it σ h).bind fun src h1 =>
    (compLoop (fun x h2 => match asgD tg x (wipeD σ (own.map (·.2))) with
      | some σ' => (evTs Γ cond σ' h2).bind fun t h3 => match t with
        | true => (evE Γ elt σ' h3).bind fun y h4 => .ok (some y) h4
        | false => .ok none h3
      | none => .stuck) h1.length src (h1 ++ [.lst []])).bind fun _ h2 => match listOf? h2 h1.length with
        | some ys => match mu with
          | true => .ok (.ref h1.length) h2
          | false => .ok (.lst ys) (endC h1 h2 ys)
        | none => .stuck
def evEs (Γ : Gam) : Exs → Sg → Hm → Res (List D)
  | .nil, _, h => .ok [] h
  | .cons e es, σ, h => (evE Γ e σ h).bind fun x h1 => (evEs Γ es σ h1).bind fun xs h2 => .ok (x :: xs) h2
/-- a test -/
def evT (Γ : Gam) : Ex → Sg → Hm → Res Bool
  | .band a b, σ, h => (evT Γ a σ h).bind fun t h1 => match t with
    | true => evT Γ b σ h1
    | false => .ok false h1
  | .bor a b, σ, h => (evT Γ a σ h).bind fun t h1 => match t with
    | true => .ok true h1
    | false => evT Γ b σ h1
  | .bnot a, σ, h => (evT Γ a σ h).bind fun t h1 => .ok (!t) h1
  | .cmp o a b, σ, h => (evE Γ a σ h).bind fun x h1 => (evE Γ b σ h1).bind fun y h2 => cmpD o x y h2
  | .chain o1 o2 a b c, σ, h => (evE Γ a σ h).bind fun x h1 => (evE Γ b σ h1).bind fun y h2 => (cmpD o1 x y h2).bind fun t h3 =>
    match t with
    | true => (evE Γ c σ h3).bind fun z h4 => cmpD o2 y z h4
    | false => .ok false h3
  | .isN a, σ, h => (evE Γ a σ h).bind fun x h1 => .ok (isNonD x) h1
  | .notN a, σ, h => (evE Γ a σ h).bind fun x h1 => .ok (!isNonD x) h1
  | .isB ng a b, σ, h => (evE Γ a σ h).bind fun x h1 => match x with
    | .bl c => .ok (ng ^^ decide (c = b)) h1
    | _ => .stuck
  | .v i, σ, h => match σ[i]? with
    | some (some d) => trD d h
    | _ => .stuck
  | .bl b, _, h => .ok b h
  | .call f es, σ, h => (evEs Γ es σ h).bind fun ds h1 => match Γ.fn f with
    | some den => (den ds h1).bind trD
    | none => .stuck
  | .callk f es kes perm, σ, h => (evEs Γ es σ h).bind fun ds h1 => (evEs Γ kes σ h1).bind fun ks h2 => match Γ.fn f with
    | some den => (den (permV perm D.non ds ks) h2).bind trD
    | none => .stuck
  | .isi a t, σ, h => (evE Γ a σ h).bind fun x h1 => .guard (openD h1 x) (.ok (tyD t x) h1)
  | .isiT a ts, σ, h => (evE Γ a σ h).bind fun x h1 => .guard (openD h1 x) (.ok (ts.any fun t => tyD t x) h1)
  | .bi b es, σ, h => (evEs Γ es σ h).bind fun ds h1 => (biD b ds h1).bind trD
  | _, _, _ => .stuck
def evTs (Γ : Gam) : Exs → Sg → Hm → Res Bool
  | .nil, _, h => .ok true h
  | .cons e .nil, σ, h => evT Γ e σ h
  | .cons _ (.cons _ _), _, _ => .stuck
/-- an end of a slice -/
def evO (Γ : Gam) : Eo → Sg → Hm → Res (Option Int)
  | .none, _, h => .ok none h
  | .some e, σ, h => (evE Γ e σ h).bind fun x h1 => match x with
    | .int i => .ok (some i) h1
    | _ => .stuck
/-- what is walked: the items -/
def evI (Γ : Gam) : It → Sg → Hm → Res (List D)
  | .rng1 a, σ, h => (evE Γ a σ h).bind fun x h1 => match x with
    | .int j => .guard (smallI j) (.ok (rngD 0 j.toNat) h1)
    | _ => .stuck
  | .rng2 a b, σ, h => (evE Γ a σ h).bind fun x h1 => (evE Γ b σ h1).bind fun y h2 => match x, y with
    | .int i, .int j => .guard (smallI i && smallI j) (.ok (rngD i (j - i).toNat) h2)
    | _, _ => .stuck
  | .ex e, σ, h => (evE Γ e σ h).bind itD
  | .rvs e, σ, h => (evE Γ e σ h).bind fun x h1 => (itD x h1).bind fun xs h2 => .ok xs.reverse h2
  | .enm e, σ, h => (evE Γ e σ h).bind fun x h1 => match x with
    | .lst xs => .ok (enumD 0 xs) h1
    | _ => .stuck
  | .enmT e, σ, h => (evE Γ e σ h).bind fun x h1 => match x with
    | .tup xs => .ok (enumD 0 xs) h1
    | _ => .stuck
  | .sgn e, σ, h => (evE Γ e σ h).bind itSD
  | .zp a b, σ, h => (evE Γ a σ h).bind fun x h1 => (evE Γ b σ h1).bind fun y h2 => match x, y with
    | .lst xs, .lst ys => .ok (zipD xs ys) h2
    | .tup xs, .tup ys => .ok (zipD xs ys) h2
    | _, _ => .stuck
end

/-! ### statements -/
structure Po where
  nx : Sg → Hm → Prop
  rt : D → Hm → Prop
  bk : Sg → Hm → Prop := fun _ _ => False
  ct : Sg → Hm → Prop := fun _ _ => False

def Res.wp {α : Type} : Res α → (α → Hm → Prop) → Prop
  | .ok a h, Q => Q a h
  | .stuck, _ => False
@[simp] theorem Res.wp_ok {α : Type} (a : α) (h : Hm) (Q : α → Hm → Prop) : (Res.ok a h).wp Q = Q a h := rfl

def wpFor (b : D → Sg → Hm → Po → Prop) : List D → Sg → Hm → Po → Prop
  | [], σ, h, P => P.nx σ h
  | x :: xs, σ, h, P => b x σ h { P with nx := fun σ' h' => wpFor b xs σ' h' P, ct := fun σ' h' => wpFor b xs σ' h' P, bk := P.nx }
def wpWhile (c : Sg → Hm → Res Bool) (b : Sg → Hm → Po → Prop) : Nat → Sg → Hm → Po → Prop
  | 0, _, _, _ => False
  | n + 1, σ, h, P => (c σ h).wp fun t h1 => match t with
    | true => b σ h1 { P with nx := fun σ' h' => wpWhile c b n σ' h' P, ct := fun σ' h' => wpWhile c b n σ' h' P, bk := P.nx }
    | false => P.nx σ h1

mutual
def wpS (Γ : Gam) : Stm → Sg → Hm → Po → Prop
  | .set i e, σ, h, P => (evE Γ e σ h).wp fun d h1 => P.nx (σ.set i (some d)) h1
  | .asg is e, σ, h, P => (evE Γ e σ h).wp fun d h1 => match asgD (.tup is) d σ with
    | some σ' => P.nx σ' h1
    | none => False
  | .par i j a b, σ, h, P => (evE Γ a σ h).wp fun x h1 => (evE Γ b σ h1).wp fun y h2 => P.nx ((σ.set i (some x)).set j (some y)) h2
  | .par3 i j l a b d, σ, h, P => (evE Γ a σ h).wp fun x h1 => (evE Γ b σ h1).wp fun y h2 => (evE Γ d σ h2).wp fun z h3 => P.nx (((σ.set i (some x)).set j (some y)).set l (some z)) h3
  | .setix o i e, σ, h, P => (evE Γ e σ h).wp fun d h1 => (evE Γ o σ h1).wp fun x h2 => (evE Γ i σ h2).wp fun y h3 => match x, y with
    | .ref n, .int k => match listOf? h3 n with
      | some xs => match ixN xs.length k with
        | some j => P.nx σ (h3.set n (.lst (xs.set j d)))
        | none => False
      | none => False
    | _, _ => False
  | .ex e, σ, h, P => (evE Γ e σ h).wp fun _ h1 => P.nx σ h1
  | .ret e, σ, h, P => (evE Γ e σ h).wp P.rt
  | .ife c a b, σ, h, P => (evT Γ c σ h).wp fun t h1 => match t with
    | true => wpB Γ a σ h1 P
    | false => wpB Γ b σ h1 P
  | .for_ tg it b, σ, h, P => (evI Γ it σ h).wp fun xs h1 => wpFor (fun x σ1 h2 P1 => match asgD tg x σ1 with
    | some σ2 => wpB Γ b σ2 h2 P1
    | none => False) xs σ h1 P
  | .while_ c b, σ, h, P => ∃ n, wpWhile (evT Γ c) (wpB Γ b) n σ h P
  | .brk, σ, h, P => P.bk σ h
  | .cont, σ, h, P => P.ct σ h
  | .pass, σ, h, P => P.nx σ h
  | .freeze i, σ, h, P => match σ[i]? with
    | some (some (.ref n)) => match listOf? h n with
      | some xs => P.nx (σ.set i (some (.lst xs))) (h.set n .gone)
      | none => False
    | _ => False
  | .never, _, _, _ => False
def wpB (Γ : Gam) : Blk → Sg → Hm → Po → Prop
  | .nil, σ, h, P => P.nx σ h
  | .cons s b, σ, h, P => wpS Γ s σ h { P with nx := fun σ' h' => wpB Γ b σ' h' P }
end
end

/-! Mini 3: readings, and the operations by values. -/

section
variable {K : PySem.W.Frag} {σ : Sg} {h h' : Hm} {ρ ρ' : List Addr} {σV : L2.St} {H H' : Hp}
theorem SR.of (s : SR K σ h ρ σV H) (r : HR K h' ρ' H') (k : Kp h ρ H h' ρ' H') : SR K σ h' ρ' σV H' := ⟨r, s.sl.mono k⟩
theorem Res.wp_mono {α : Type} {r : Res α} {Q Q' : α → Hm → Prop} (w : r.wp Q) (m : ∀ a h, Q a h → Q' a h) : r.wp Q' := by
  cases r with
  | ok a h => exact m a h w
  | stuck => exact w
theorem Res.wp_bind {α β : Type} {r : Res α} {k : α → Hm → Res β} {Q : β → Hm → Prop} (w : (r.bind k).wp Q) : r.wp fun a h => (k a h).wp Q := by
  cases r with
  | ok a h => exact w
  | stuck => exact w
theorem Res.bind_wp_of {α β : Type} {r : Res α} {k : α → Hm → Res β} {Q : β → Hm → Prop} (w : r.wp fun a h => (k a h).wp Q) : (r.bind k).wp Q := by
  cases r with
  | ok a h => exact w
  | stuck => exact w
theorem Res.wp_guard {α : Type} {b : Bool} {r : Res α} {Q : α → Hm → Prop} (w : (Res.guard b r).wp Q) : b = true ∧ r.wp Q := by
  cases b with
  | true => exact ⟨rfl, w⟩
  | false => exact False.elim w

/-! ### readings -/
def tE (K : PySem.W.Frag) (f : Sg → Hm → Res D) : TE := fun σV H Q => ∃ σ h ρ, SR K σ h ρ σV H ∧ (f σ h).wp fun d h' => ∀ v H' ρ', SR K σ h' ρ' σV H' → Kp h ρ H h' ρ' H' → Rel K h' ρ' H' d v → Q v H'
def tT (K : PySem.W.Frag) (f : Sg → Hm → Res Bool) : TT := fun σV H Q => ∃ σ h ρ, SR K σ h ρ σV H ∧ (f σ h).wp fun b h' => ∀ H' ρ', SR K σ h' ρ' σV H' → Kp h ρ H h' ρ' H' → Q b H'
def tA (K : PySem.W.Frag) (f : Sg → Hm → Res (List D)) : TA := fun σV H Q => ∃ σ h ρ, SR K σ h ρ σV H ∧ (f σ h).wp fun ds h' => ∀ vs H' ρ', SR K σ h' ρ' σV H' → Kp h ρ H h' ρ' H' → Rels K h' ρ' H' ds vs → Q vs H'
def tP (K : PySem.W.Frag) (f : Sg → Hm → Res (Option Int)) : TO := fun σV H Q => ∃ σ h ρ, SR K σ h ρ σV H ∧ (f σ h).wp fun o h' => ∀ H' ρ', SR K σ h' ρ' σV H' → Kp h ρ H h' ρ' H' → Q o H'

/-- an expression within a chain -/
theorem tE_of {α : Type} {f : Sg → Hm → Res D} {k : D → Hm → Res α} {R : α → Hm → Prop} {Q : VK} (s : SR K σ h ρ σV H) (w : ((f σ h).bind k).wp R)
    (c : ∀ d h' v H' ρ', SR K σ h' ρ' σV H' → Kp h ρ H h' ρ' H' → Rel K h' ρ' H' d v → (k d h').wp R → Q v H') : tE K f σV H Q :=
  ⟨σ, h, ρ, s, Res.wp_mono (Res.wp_bind w) fun d h' q v H' ρ' s' k' r' => c d h' v H' ρ' s' k' r' q⟩
theorem tT_of {α : Type} {f : Sg → Hm → Res Bool} {k : Bool → Hm → Res α} {R : α → Hm → Prop} {Q : Bool → Hp → Prop} (s : SR K σ h ρ σV H) (w : ((f σ h).bind k).wp R)
    (c : ∀ b h' H' ρ', SR K σ h' ρ' σV H' → Kp h ρ H h' ρ' H' → (k b h').wp R → Q b H') : tT K f σV H Q :=
  ⟨σ, h, ρ, s, Res.wp_mono (Res.wp_bind w) fun b h' q H' ρ' s' k' => c b h' H' ρ' s' k' q⟩
theorem tA_of {α : Type} {f : Sg → Hm → Res (List D)} {k : List D → Hm → Res α} {R : α → Hm → Prop} {Q : List V → Hp → Prop} (s : SR K σ h ρ σV H) (w : ((f σ h).bind k).wp R)
    (c : ∀ ds h' vs H' ρ', SR K σ h' ρ' σV H' → Kp h ρ H h' ρ' H' → Rels K h' ρ' H' ds vs → (k ds h').wp R → Q vs H') : tA K f σV H Q :=
  ⟨σ, h, ρ, s, Res.wp_mono (Res.wp_bind w) fun ds h' q vs H' ρ' s' k' r' => c ds h' vs H' ρ' s' k' r' q⟩
theorem tP_of {α : Type} {f : Sg → Hm → Res (Option Int)} {k : Option Int → Hm → Res α} {R : α → Hm → Prop} {Q : Option Int → Hp → Prop} (s : SR K σ h ρ σV H) (w : ((f σ h).bind k).wp R)
    (c : ∀ o h' H' ρ', SR K σ h' ρ' σV H' → Kp h ρ H h' ρ' H' → (k o h').wp R → Q o H') : tP K f σV H Q :=
  ⟨σ, h, ρ, s, Res.wp_mono (Res.wp_bind w) fun o h' q H' ρ' s' k' => c o h' H' ρ' s' k' q⟩
end

theorem PE.w {X : Cx} {e : Expr} {t t' : TE} (p : PE X e t) (w : ∀ σ H Q, t' σ H Q → t σ H Q) : PE X e t' := ⟨fun pins s σ H Q I q => p.run pins s σ H Q I (w σ H Q q)⟩
theorem PT.w {X : Cx} {e : Expr} {t t' : TT} (p : PT X e t) (w : ∀ σ H Q, t' σ H Q → t σ H Q) : PT X e t' := ⟨fun pins s σ H Q I q => p.run pins s σ H Q I (w σ H Q q)⟩
theorem PW.w {X : Cx} {e : Expr} {t t' : TT} (p : PW X e t) (w : ∀ σ H Q, t' σ H Q → t σ H Q) : PW X e t' := ⟨fun wh pins s σ H Q I q => p.run wh pins s σ H Q I (w σ H Q q)⟩
theorem PA.w {X : Cx} {es : List Expr} {t t' : TA} (p : PA X es t) (w : ∀ σ H Q, t' σ H Q → t σ H Q) : PA X es t' := ⟨fun pos pins s σ H Q I q => p.run pos pins s σ H Q I (w σ H Q q)⟩
theorem PO.w {X : Cx} {e : Option Expr} {t t' : TO} (p : PO X e t) (w : ∀ σ H Q, t' σ H Q → t σ H Q) : PO X e t' := ⟨fun pins s σ H Q I q => p.run pins s σ H Q I (w σ H Q q)⟩
theorem PS.w {X : Cx} {e : Stmt} {t t' : TS} (p : PS X e t) (w : ∀ D σ H, t' D σ H → t D σ H) : PS X e t' := ⟨fun pins s σ H D I q => p.run pins s σ H D I (w D σ H q)⟩
theorem PSs.w {X : Cx} {e : List Stmt} {t t' : TS} (p : PSs X e t) (w : ∀ D σ H, t' D σ H → t D σ H) : PSs X e t' := ⟨fun pins s σ H D I q => p.run pins s σ H D I (w D σ H q)⟩

/-! ### operations by values -/
def DR1 (K : PySem.W.Frag) (g : D → Hm → Res D) : V → Hp → VK → Prop := fun x H Q => ∃ h ρ d, HR K h ρ H ∧ Rel K h ρ H d x ∧ (g d h).wp fun r h' => ∀ v H' ρ', HR K h' ρ' H' → Kp h ρ H h' ρ' H' → Rel K h' ρ' H' r v → Q v H'
def DR2 (K : PySem.W.Frag) (g : D → D → Hm → Res D) : R2 := fun x y H Q => ∃ h ρ d e, HR K h ρ H ∧ Rel K h ρ H d x ∧ Rel K h ρ H e y ∧ (g d e h).wp fun r h' => ∀ v H' ρ', HR K h' ρ' H' → Kp h ρ H h' ρ' H' → Rel K h' ρ' H' r v → Q v H'
def DRs (K : PySem.W.Frag) (g : List D → Hm → Res D) : List V → Hp → VK → Prop := fun xs H Q => ∃ h ρ ds, HR K h ρ H ∧ Rels K h ρ H ds xs ∧ (g ds h).wp fun r h' => ∀ v H' ρ', HR K h' ρ' H' → Kp h ρ H h' ρ' H' → Rel K h' ρ' H' r v → Q v H'
/-- a comparison's -/
def DRc (K : PySem.W.Frag) (g : D → D → Hm → Res Bool) : R2 := fun x y H Q => ∃ h ρ d e, HR K h ρ H ∧ Rel K h ρ H d x ∧ Rel K h ρ H e y ∧ (g d e h).wp fun b h' => ∀ H' ρ', HR K h' ρ' H' → Kp h ρ H h' ρ' H' → Q (.bl b) H'
section
variable {X : Cx} {f : Value → Value → Sem Value} {g : D → D → Hm → Res D}
theorem opW {r r' : R2} (p : OpR X f r) (w : ∀ x y H Q, r' x y H Q → r x y H Q) : OpR X f r' := fun pins s σ H x y v u Q I rx ry q => p pins s σ H x y v u Q I rx ry (w x y H Q q)
theorem opOr {r r' : R2} (p : OpR X f r) (p' : OpR X f r') : OpR X f (fun x y H Q => r x y H Q ∨ r' x y H Q) := by
  intro pins s σ H x y v u Q I rx ry q
  rcases q with q | q
  · exact p pins s σ H x y v u Q I rx ry q
  · exact p' pins s σ H x y v u Q I rx ry q
end
theorem sz : sizeLine = 16777216 := sizeLine_eq
theorem le_sz {n : Nat} (h : decide (n ≤ LIM) = true) : n ≤ sizeLine := by rw [sz]; exact of_decide_eq_true h
theorem lt_sz {n : Nat} (h : decide (n < LIM) = true) : n < sizeLine := by rw [sz]; exact of_decide_eq_true h

section
variable {K : PySem.W.Frag} {h : Hm} {ρ : List Addr} {H : Hp}
/-- a new tuple, a new list -/
theorem Rel.newT {p : Addr} {o : Obj} {xs : List D} {vs : List V} (r : HR K h ρ H) (e : H p = none) (d : o.dict = none) (q : Rels K h ρ H xs vs) : Rel K h ρ (upd H p (.frz o (.tup vs))) (.tup xs) (.ref p) :=
  .tup (.inl ⟨o, upd_same, d, r.fresh e⟩) (q.mono (Kp.new r e))
theorem Rel.newW {p : Addr} {xs : List D} {vs : List V} (r : HR K h ρ H) (e : H p = none) (q : Rels K h ρ H xs vs) : Rel K h ρ (upd H p (.tup vs)) (.wtup xs) (.ref p) :=
  .wtup ⟨.inl upd_same, r.fresh e⟩ (q.mono (Kp.new r e))
theorem Rel.newL {p : Addr} {xs : List D} {vs : List V} (r : HR K h ρ H) (e : H p = none) (q : Rels K h ρ H xs vs) : Rel K h ρ (upd H p (.lst vs)) (.lst xs) (.ref p) :=
  .lst (.inl ⟨.inl upd_same, r.fresh e⟩) (q.mono (Kp.new r e))
theorem HR.ref {n : Nat} {a : Addr} {xs : List D} (r : HR K h ρ H) (e : ρ[n]? = some a) (l : listOf? h n = some xs) : ∃ vs, H a = some (.lst vs) ∧ Rels K h ρ H xs vs := by
  unfold listOf? at l
  split at l
  · rename_i ys q
    cases l
    exact r.obj n _ a q e
  · cases l
/-- a list or tuple -/
theorem Rel.seq {d : D} {v : V} {xs : List D} (r : HR K h ρ H) (q : Rel K h ρ H d v) (i : itemsOf h d = some xs) : ∃ a vs, v = .ref a ∧ (SqL K H a vs ∨ SqT K H a vs) ∧ Rels K h ρ H xs vs := by
  cases q with
  | tup l q =>
    cases i
    exact ⟨_, _, rfl, .inr l.sq, q⟩
  | lst l q =>
    cases i
    exact ⟨_, _, rfl, .inl l.sq, q⟩
  | @ref n a e =>
    obtain ⟨vs, h1, h2⟩ := r.ref e i
    exact ⟨a, vs, rfl, .inl (SqL.of h1), h2⟩
  | _ => cases i
/-! plain data -/
mutual
theorem RD.py : ∀ {d : D} {v : V} {p : PyData}, Rel K h ρ H d v → toPy d = some p → Dp K H v p
  | .non, _, _, q, e => by
    cases q; cases e; exact .non
  | .bl _, _, _, q, e => by
    cases q; cases e; exact .bl _
  | .int _, _, _, q, e => by
    cases q; cases e; exact .int _
  | .str _, _, _, q, e => by
    cases q; cases e; exact .str _
  | .tup xs, _, _, q, e => by
    cases q with
    | tup l q =>
      unfold toPy at e
      cases e2 : toPys xs with
      | none => rw [e2] at e; cases e
      | some ps =>
        rw [e2] at e
        cases e
        exact .tup l.sq (RDs.py q e2)
  | .lst xs, _, _, q, e => by
    cases q with
    | lst l q =>
      unfold toPy at e
      cases e2 : toPys xs with
      | none => rw [e2] at e; cases e
      | some ps =>
        rw [e2] at e
        cases e
        exact .lst l.sq (RDs.py q e2)
  | .ref _, _, _, _, e => by cases e
  | .wtup _, _, _, _, e => by cases e
  | .dict _ _, _, _, _, e => by cases e
  | .fn _ _, _, _, _, e => by cases e
theorem RDs.py : ∀ {ds : List D} {vs : List V} {ps : List PyData}, Rels K h ρ H ds vs → toPys ds = some ps → DpAll K H vs ps
  | [], _, _, q, e => by
    cases q; cases e; exact .nil
  | d :: ds, _, _, q, e => by
    cases q with
    | cons a b =>
      unfold toPys at e
      cases e1 : toPy d with
      | none => rw [e1] at e; cases e
      | some p =>
        cases e2 : toPys ds with
        | none => rw [e1, e2] at e; cases e
        | some ps =>
          rw [e1, e2] at e
          cases e
          exact .cons (RD.py a e1) (RDs.py b e2)
end
theorem Rel.pyH {d : D} {v : V} {p : PyData} (r : HR K h ρ H) (q : Rel K h ρ H d v) (e : toPyH h d = some p) : Dp K H v p := by
  cases q with
  | @ref n a e1 =>
    have e : Option.map PyData.list ((listOf? h n).bind toPys) = some p := e
    cases e2 : listOf? h n with
    | none => rw [e2] at e; cases e
    | some xs =>
      rw [e2] at e
      obtain ⟨vs, h1, h2⟩ := r.ref e1 e2
      have e : Option.map PyData.list (toPys xs) = some p := e
      cases e3 : toPys xs with
      | none => rw [e3] at e; cases e
      | some ps =>
        rw [e3] at e
        cases e
        exact .lst (SqL.of h1) (RDs.py h2 e3)
  | non => exact RD.py (h := h) (ρ := ρ) (.non) e
  | bl b => exact RD.py (h := h) (ρ := ρ) (.bl b) e
  | int b => exact RD.py (h := h) (ρ := ρ) (.int b) e
  | str b => exact RD.py (h := h) (ρ := ρ) (.str b) e
  | tup a b => exact RD.py (h := h) (ρ := ρ) (.tup a b) e
  | lst a b => exact RD.py (h := h) (ρ := ρ) (.lst a b) e
  | wtup a b => cases e
  | dict a b => cases e
  | fn a => cases e
end

section
variable {X : Cx}
/-! ### two places -/
/-- list + list -/
theorem op_catL : OpR X (binaryOp .Add) (fun x y H Q => ∃ l b xs zs, x = .ref l ∧ y = .ref b ∧ SqL X.K H l xs ∧ SqL X.K H b zs ∧ xs.length + zs.length ≤ sizeLine ∧ ∀ p, H p = none → Q (.ref p) (upd H p (.lst (xs ++ zs)))) := by
  intro pins s σ H x y v u Q I rx ry h
  obtain ⟨l, b, xs, zs, rfl, rfl, hH, hB, hz, q⟩ := h
  cases rx
  cases ry
  obtain ⟨its, r, ⟨⟨cls, dd, data, sl⟩, n, ho, hc, _, hd⟩, z⟩ := I.list hH
  obtain ⟨its2, r2, ⟨⟨cls2, dd2, data2, sl2⟩, n2, ho2, hc2, _, hd2⟩, z2⟩ := I.list hB
  simp only at hc hd hc2 hd2
  subst hc hd hc2 hd2
  have e : its.toArray ++ its2.toArray = (its ++ its2).toArray := by simp
  have l1 := r.length
  have l2 := r2.length
  refine concat_meets ⟨_, ho, rfl⟩ ⟨_, ho2, rfl⟩ noFill_list_add seq_list_add PySem.F.slot_list_add PySem.F.entry_list_add (PySem.F.args_list_add_2 _ _) (list_addW l b its.toArray its2.toArray n n2 dd dd2 sl sl2 (by rw [List.size_toArray, List.size_toArray]; omega)) ⟨ho, ho2, ?_⟩
  rw [e]
  exact ⟨.ref _, _, I.lnew (t' := s.toks) (r.append r2) (by rw [List.length_append]; omega), rfl, q _ I.fresh⟩

theorem rI_int {K : PySem.W.Frag} {h : Hm} {ρ : List Addr} {H : Hp} {i : Int} {x : V} (r : Rel K h ρ H (.int i) x) : x = .int i := by cases r; rfl
theorem rI_str {K : PySem.W.Frag} {h : Hm} {ρ : List Addr} {H : Hp} {i : Str} {x : V} (r : Rel K h ρ H (.str i) x) : x = .str i := by cases r; rfl
theorem rI_bl {K : PySem.W.Frag} {h : Hm} {ρ : List Addr} {H : Hp} {i : Bool} {x : V} (r : Rel K h ρ H (.bl i) x) : x = .bl i := by cases r; rfl
/-- the operation of two ints -/
theorem op_ofI {f : Value → Value → Sem Value} {C : Int → Int → Prop} {gi : Int → Int → Int} {g : D → D → Hm → Res D} (o : OpR X f (rI C fun i j => .int (gi i j)))
    (w : ∀ d e h (R : D → Hm → Prop), (g d e h).wp R → ∃ i j, d = .int i ∧ e = .int j ∧ C i j ∧ R (.int (gi i j)) h) : OpR X f (DR2 X.K g) := opW o fun x y H Q hq => by
  obtain ⟨h, ρ, d, e, hr, r1, r2, q⟩ := hq
  obtain ⟨i, j, rfl, rfl, c, q⟩ := w _ _ _ _ q
  exact ⟨i, j, rI_int r1, rI_int r2, c, q _ _ _ hr Kps.refl (.int _)⟩
theorem opR_sub : OpR X (binaryOp .Sub) (DR2 X.K (opD .sub)) := op_ofI (C := fun _ _ => True) (gi := fun i j => i - j) (opW op_sub fun x y H Q ⟨i, j, a, b, _, q⟩ => ⟨i, j, a, b, q⟩) fun d e h R w => by
  cases d <;> cases e <;> first | exact False.elim w | skip
  exact ⟨_, _, rfl, rfl, trivial, w⟩
theorem mulOk_ok {i j : Int} (h : mulOk i j = true) : IntMulOk i j := by
  unfold mulOk at h
  rw [Bool.or_eq_true, Bool.or_eq_true] at h
  rcases h with (h | h) | h
  · exact CMulW.ok (show i.natAbs.log2 + j.natAbs.log2 < 1000000 from of_decide_eq_true h)
  · rw [Bool.and_eq_true] at h
    exact CMul.ok (.inl ⟨of_decide_eq_true h.1, of_decide_eq_true h.2⟩)
  · rw [Bool.and_eq_true] at h
    exact CMul.ok (.inr ⟨of_decide_eq_true h.1, of_decide_eq_true h.2⟩)
theorem repOk_ok {n : Nat} {k : Int} (h : repOk n k = true) : 0 < n ∧ n ≤ 100 ∧ 2 ≤ k ∧ k ≤ 100000 := by
  unfold repOk at h
  rw [Bool.and_eq_true, Bool.and_eq_true, Bool.and_eq_true] at h
  exact ⟨of_decide_eq_true h.1.1.1, of_decide_eq_true h.1.1.2, of_decide_eq_true h.1.2, of_decide_eq_true h.2⟩
theorem RDs.reps {K : PySem.W.Frag} {H : Hp} {ρ : List Addr} {M : Addr → Prop} {ds : List D} {vs : List V} (r : RDs K H ρ M ds vs) : ∀ n : Nat, RDs K H ρ M (List.replicate n ds).flatten (List.replicate n vs).flatten
  | 0 => .nil
  | n + 1 => by
    rw [List.replicate_succ, List.replicate_succ, List.flatten_cons, List.flatten_cons]
    exact r.append (RDs.reps r n)
theorem opR_mulI : OpR X (binaryOp .Mult) (rI (fun i j => mulOk i j = true) fun i j => .int (i * j)) := opI fun _ _ _ _ _ _ _ hc q => mul_int q (mulOk_ok hc)
theorem opR_mul : OpR X (binaryOp .Mult) (DR2 X.K (opD .mul)) := by
  intro pins s σ H x y v u Q I rx ry hq
  obtain ⟨h, ρ, d, e, hr, r1, r2, q⟩ := hq
  cases d <;> cases e <;> first | exact False.elim q | skip
  · obtain ⟨c, q⟩ := Res.wp_guard q
    exact opR_mulI pins s σ H x y v u Q I rx ry ⟨_, _, rI_int r1, rI_int r2, c, q _ _ _ hr Kps.refl (.int _)⟩
  · obtain ⟨c, q⟩ := Res.wp_guard q
    obtain ⟨c1, c2, c3, c4⟩ := repOk_ok c
    exact op_mulS pins s σ H x y v u Q I rx ry ⟨_, _, rI_str r1, rI_int r2, c3, c4, c1, c2, q _ _ _ hr Kps.refl (.str _)⟩
  · obtain ⟨c, q⟩ := Res.wp_guard q
    obtain ⟨c1, c2, c3, c4⟩ := repOk_ok c
    cases r1 with
    | @tup a xs vs l rs =>
      have len := rs.length
      refine op_repF pins s σ H _ y v u Q I rx ry ⟨a, _, vs, rfl, rI_int r2, l.sq, ?_, c3, c4, by omega, fun p o hp ho => ?_⟩
      · intro z
        rw [z] at len
        rw [len] at c1
        exact absurd c1 (by decide)
      · exact q _ _ _ (hr.new hp) (Kp.new hr hp) (Rel.newT hr hp ho (rs.reps _))
theorem divOk_ok {j : Int} (h : divOk j = true) : j ≠ 0 ∧ j.natAbs.log2 < 9000 := by
  unfold divOk at h
  rw [Bool.and_eq_true] at h
  exact ⟨of_decide_eq_true h.1, of_decide_eq_true h.2⟩
theorem opR_fdiv : OpR X (binaryOp .FloorDiv) (DR2 X.K (opD .fdiv)) := op_ofI (C := fun _ j => j ≠ 0 ∧ j.natAbs.log2 < 9000) (gi := fun i j => i.fdiv j) (opI fun _ _ _ _ _ _ _ hc q => floordiv_int hc.1 q (.inl (PyProof.noPylong_of_log2 hc.2))) fun d e h R w => by
  cases d <;> cases e <;> first | exact False.elim w | skip
  obtain ⟨c, w⟩ := Res.wp_guard w
  exact ⟨_, _, rfl, rfl, divOk_ok c, w⟩
theorem opR_mod : OpR X (binaryOp .Mod) (DR2 X.K (opD .mod)) := op_ofI op_mod fun d e h R w => by
  cases d <;> cases e <;> first | exact False.elim w | skip
  obtain ⟨c, w⟩ := Res.wp_guard w
  exact ⟨_, _, rfl, rfl, of_decide_eq_true c, w⟩
theorem opR_pow : OpR X (binaryOp .Pow) (DR2 X.K (opD .pow)) := op_ofI op_pow fun d e h R w => by
  cases d <;> cases e <;> first | exact False.elim w | skip
  obtain ⟨c, w⟩ := Res.wp_guard w
  unfold powOk at c
  rw [Bool.and_eq_true, Bool.and_eq_true] at c
  exact ⟨_, _, rfl, rfl, ⟨of_decide_eq_true c.1.1, of_decide_eq_true c.1.2, of_decide_eq_true c.2⟩, w⟩
/-- tuple + tuple: known to the object -/
theorem op_catF : OpR X (binaryOp .Add) (fun x y H Q => ∃ a b xs ys, x = .ref a ∧ y = .ref b ∧ SqT X.K H a xs ∧ SqT X.K H b ys ∧ xs.length + ys.length ≤ sizeLine ∧
    (xs = [] → Q (.ref b) H) ∧ (xs ≠ [] → ys = [] → Q (.ref a) H) ∧ (xs ≠ [] → ys ≠ [] → ∀ (p : Addr) (o : Obj), H p = none → o.dict = none → Q (.ref p) (upd H p (.frz o (.tup (xs ++ ys)))))) := by
  intro pins s σ H x y v u Q I rx ry h
  obtain ⟨a, b, xs, ys, rfl, rfl, ha, hb, hz, q0, q1, q2⟩ := h
  cases rx
  cases ry
  by_cases hx : xs = []
  · subst hx
    obtain ⟨its, r1, p1, _⟩ := I.tuple ha
    obtain ⟨its2, r2, p2, _⟩ := I.tuple hb
    cases r1
    exact cat_tup0 p1 p2 ⟨.ref b, H, I, rfl, q0 rfl⟩
  · obtain ⟨its, r1, p1, _⟩ := I.tuple ha
    obtain ⟨its2, r2, p2, _⟩ := I.tuple hb
    refine HT.cat_tup p1 p2 (fun z => hx (r1.nil_iff.mp z)) (fun z => ⟨.ref a, H, I, rfl, q1 hx (r2.nil_iff.mp z)⟩) (fun z => ?_) (by rw [← r1.length, ← r2.length]; exact hz)
    refine ⟨.ref s.heap.objs.size, _, I.laid (t' := s.toks) (o := .frz { cls := .type "tuple", data := .seq (its ++ its2).toArray } (.tup (xs ++ ys))) (fun b ob q => Heap.get?_push_of_some _ q) (Nat.le_refl _) ?_, rfl, q2 hx (fun w => z (r2.nil_iff.mpr w)) _ _ (I.hok.fresh (Nat.le_refl _)) rfl⟩
    exact ⟨Heap.get?_push_size _ rfl, by rw [List.length_append]; exact hz, _, r1.append r2, IsTup.new _ _⟩
theorem Rel.lstv0 {K : PySem.W.Frag} {h : Hm} {ρ : List Addr} {H : Hp} {d : D} {v : V} {xs : List D} (hr : HR K h ρ H) (r : Rel K h ρ H d v) (e : lstOf h d = some xs) : ∃ a vs, v = .ref a ∧ SqL K H a vs ∧ Rels K h ρ H xs vs := by
  cases r with
  | lst l q => cases e; exact ⟨_, _, rfl, l.sq, q⟩
  | @ref n a ea =>
    obtain ⟨vs, h1, h2⟩ := hr.ref ea e
    exact ⟨a, vs, rfl, .inl (.inl h1), h2⟩
  | _ => cases e
theorem Rel.tupv0 {K : PySem.W.Frag} {h : Hm} {ρ : List Addr} {H : Hp} {d : D} {v : V} {xs : List D} (r : Rel K h ρ H d v) (e : tupOf d = some xs) : ∃ a vs, v = .ref a ∧ LieT K H (Mu ρ h) a vs ∧ Rels K h ρ H xs vs := by
  cases r with
  | tup l q => cases e; exact ⟨_, _, rfl, l, q⟩
  | _ => cases e
theorem opR_cat (mu : Bool) : OpR X (binaryOp .Add) (DR2 X.K (catD mu)) := by
  intro pins s σ H x y v u Q I rx ry hq
  obtain ⟨h, ρ, d, e, hr, r1, r2, q⟩ := hq
  unfold catD at q
  split at q
  · rename_i xs ys e1 e2
    obtain ⟨c, q⟩ := Res.wp_guard q
    obtain ⟨a, vs, rfl, l1, q1⟩ := r1.lstv0 hr e1
    obtain ⟨b, ws, rfl, l2, q2⟩ := r2.lstv0 hr e2
    refine op_catL pins s σ H _ _ v u Q I rx ry ⟨_, _, _, _, rfl, rfl, l1, l2, ?_, fun p hp => ?_⟩
    · have := le_sz c
      rw [← q1.length, ← q2.length]
      exact this
    · cases mu with
      | true => exact q _ _ _ (hr.push hp (q1.append q2)) (Kp.push hr hp) (.ref (by rw [← hr.len]; simp))
      | false => exact q _ _ _ (hr.new hp) (Kp.new hr hp) (Rel.newL hr hp (q1.append q2))
  · split at q
    · rename_i xs ys e1 e2
      obtain ⟨c, q⟩ := Res.wp_guard q
      rw [Bool.and_eq_true] at c
      obtain ⟨a, vs, rfl, l1, q1⟩ := r1.tupv0 e1
      obtain ⟨b, ws, rfl, l2, q2⟩ := r2.tupv0 e2
      refine op_catF pins s σ H _ _ v u Q I rx ry ⟨_, _, _, _, rfl, rfl, l1.sq, l2.sq, ?_, fun z => ?_, fun _ z => ?_, fun _ _ p o hp ho => ?_⟩
      · have := le_sz c.2
        rw [← q1.length, ← q2.length]
        exact this
      · subst z
        cases q1
        exact q _ _ _ hr Kps.refl (.tup l2 q2)
      · subst z
        cases q2
        exact q _ _ _ hr Kps.refl (by rw [List.append_nil]; exact .tup l1 q1)
      · exact q _ _ _ (hr.new hp) (Kp.new hr hp) (Rel.newT hr hp ho (q1.append q2))
    · exact False.elim q
theorem opR_add : OpR X (binaryOp .Add) (DR2 X.K (opD .add)) := by
  intro pins s σ H x y v u Q I rx ry hq
  obtain ⟨h, ρ, d, e, hr, r1, r2, q⟩ := id hq
  have gen : (catD false d e h).wp (fun r h' => ∀ v H' ρ', HR X.K h' ρ' H' → Kp h ρ H h' ρ' H' → Rel X.K h' ρ' H' r v → Q v H') → wpAny (model X.prog X.w) X.A (binaryOp .Add v u) (EP X pins σ Q) X.xe s := fun q => opR_cat false pins s σ H x y v u Q I rx ry ⟨h, ρ, d, e, hr, r1, r2, q⟩
  cases d <;> cases e <;> first | exact gen q | skip
  · exact op_add pins s σ H x y v u Q I rx ry ⟨_, _, rI_int r1, rI_int r2, q _ _ _ hr Kps.refl (.int _)⟩
  · obtain ⟨c, q⟩ := Res.wp_guard q
    exact op_add_str pins s σ H x y v u Q I rx ry ⟨_, _, rI_str r1, rI_str r2, le_sz c, q _ _ _ hr Kps.refl (.str _)⟩
theorem opR_addM : OpR X (binaryOp .Add) (DR2 X.K (opD .addM)) := opW (opR_cat true) fun x y H Q ⟨h, ρ, d, e, hr, r1, r2, q⟩ => ⟨h, ρ, d, e, hr, r1, r2, by cases d <;> cases e <;> exact q⟩
theorem opR_of : ∀ (o : Op2) (po : Operator), (match o, po with
    | .add, .Add => true | .sub, .Sub => true | .mul, .Mult => true | .fdiv, .FloorDiv => true | .mod, .Mod => true | .pow, .Pow => true | .addM, .Add => true | _, _ => false) = true → OpR X (binaryOp po) (DR2 X.K (opD o)) := by
  intro o po e
  cases o <;> cases po <;> first | exact Bool.noConfusion e | exact opR_add | exact opR_sub | exact opR_mul | exact opR_fdiv | exact opR_mod | exact opR_pow | exact opR_addM

/-! ### comparisons -/
theorem cmp_ofI {f : Value → Value → Sem Value} {gi : Int → Int → Bool} {g : D → D → Hm → Res Bool} (o : OpR X f (rI0 fun i j => .bl (gi i j)))
    (w : ∀ d e h (R : Bool → Hm → Prop), (g d e h).wp R → ∃ i j, d = .int i ∧ e = .int j ∧ R (gi i j) h) : OpR X f (DRc X.K g) := opW o fun x y H Q hq => by
  obtain ⟨h, ρ, d, e, hr, r1, r2, q⟩ := hq
  obtain ⟨i, j, e1, e2, q'⟩ := w _ _ _ _ q
  subst e1 e2
  exact ⟨i, j, rI_int r1, rI_int r2, q' _ _ hr Kps.refl⟩
theorem cmR_lt : OpR X (compareOp .Lt) (DRc X.K (cmpD .lt)) := by
  intro pins s σ H x y v u Q I rx ry hq
  obtain ⟨h, ρ, d, e, hr, r1, r2, q⟩ := hq
  cases d <;> cases e <;> first | exact False.elim q | skip
  · exact op_lt pins s σ H x y v u Q I rx ry ⟨_, _, rI_int r1, rI_int r2, q _ _ hr Kps.refl⟩
  · exact op_lt_str pins s σ H x y v u Q I rx ry ⟨_, _, rI_str r1, rI_str r2, q _ _ hr Kps.refl⟩
theorem cmR_le : OpR X (compareOp .LtE) (DRc X.K (cmpD .le)) := by
  intro pins s σ H x y v u Q I rx ry hq
  obtain ⟨h, ρ, d, e, hr, r1, r2, q⟩ := hq
  cases d <;> cases e <;> first | exact False.elim q | skip
  · exact op_le pins s σ H x y v u Q I rx ry ⟨_, _, rI_int r1, rI_int r2, q _ _ hr Kps.refl⟩
  · exact op_le_str pins s σ H x y v u Q I rx ry ⟨_, _, rI_str r1, rI_str r2, q _ _ hr Kps.refl⟩
theorem cmR_gt : OpR X (compareOp .Gt) (DRc X.K (cmpD .gt)) := cmp_ofI op_gt fun d e h R w => by
  cases d <;> cases e <;> first | exact False.elim w | skip
  exact ⟨_, _, rfl, rfl, w⟩
theorem cmR_ge : OpR X (compareOp .GtE) (DRc X.K (cmpD .ge)) := cmp_ofI op_ge fun d e h R w => by
  cases d <;> cases e <;> first | exact False.elim w | skip
  exact ⟨_, _, rfl, rfl, w⟩
theorem eqD_wp {K : PySem.W.Frag} {h : Hm} {ρ : List Addr} {H : Hp} {d e : D} {x y : V} {R : Bool → Hm → Prop} (hr : HR K h ρ H) (r1 : Rel K h ρ H d x) (r2 : Rel K h ρ H e y) (w : (eqD d e h).wp R) :
    ∃ p q, Dp K H x p ∧ Dp K H y q ∧ SeqAt.shaped p = true ∧ SeqAt.shaped q = true ∧ R (PyData.eqv p q) h := by
  unfold eqD at w
  split at w
  · rename_i p q e1 e2
    obtain ⟨c, w⟩ := Res.wp_guard w
    rw [Bool.and_eq_true] at c
    exact ⟨p, q, r1.pyH hr e1, r2.pyH hr e2, c.1, c.2, w⟩
  · exact False.elim w
theorem cmR_eq (hu : X.A.units + 64 < cLine) : OpR X (compareOp .Eq) (DRc X.K (cmpD .eq)) := opW (op_eqD hu) fun x y H Q hq => by
  obtain ⟨h, ρ, d, e, hr, r1, r2, q⟩ := hq
  obtain ⟨p, p', a, b, c, c', q⟩ := eqD_wp hr r1 r2 q
  exact ⟨p, p', a, b, c, c', q _ _ hr Kps.refl⟩
theorem cmR_ne (hu : X.A.units + 64 < cLine) : OpR X (compareOp .NotEq) (DRc X.K (cmpD .ne)) := opW (op_neD hu) fun x y H Q hq => by
  obtain ⟨h, ρ, d, e, hr, r1, r2, q⟩ := hq
  obtain ⟨p, p', a, b, c, c', q⟩ := eqD_wp hr r1 r2 (Res.wp_bind q)
  exact ⟨p, p', a, b, c, c', q _ _ hr Kps.refl⟩
/-! in, not in -/
theorem flat_rel {K : PySem.W.Frag} {h : Hm} {ρ : List Addr} {H : Hp} {d : D} {v : V} (r : Rel K h ρ H d v) (f : flatD d = true) : flatV v = true ∧ ∀ e w, Rel K h ρ H e w → flatD e = true → eqFD d e = eqV v w := by
  cases r <;> first | exact Bool.noConfusion f | skip
  all_goals
    refine ⟨rfl, fun e w r2 f2 => ?_⟩
    cases r2 <;> first | exact Bool.noConfusion f2 | rfl
theorem flats_rel {K : PySem.W.Frag} {h : Hm} {ρ : List Addr} {H : Hp} {x : D} {v : V} (rx : Rel K h ρ H x v) (fx : flatD x = true) : ∀ {ys : List D} {vs : List V}, Rels K h ρ H ys vs → ys.all flatD = true → vs.all flatV = true ∧ (ys.any fun y => eqFD y x) = inV v vs
  | [], _, r, _ => by cases r; exact ⟨rfl, rfl⟩
  | y :: ys, _, r, f => by
    cases r with
    | cons a b =>
      rw [List.all_cons, Bool.and_eq_true] at f
      obtain ⟨i1, i2⟩ := flats_rel rx fx b f.2
      obtain ⟨j1, j2⟩ := flat_rel a f.1
      refine ⟨by rw [List.all_cons, j1, i1] <;> rfl, ?_⟩
      rw [List.any_cons, i2, j2 _ _ rx fx] <;> rfl
theorem look_rel {K : PySem.W.Frag} {h : Hm} {ρ : List Addr} {H : Hp} {x : Str} : ∀ {ks : List Str} {ds : List D} {vs : List V}, Rels K h ρ H ds vs → ks.length = vs.length → match lookD ks ds x with
    | some d => ∃ v, valV (kz ks vs) (.inr x) = some v ∧ Rel K h ρ H d v
    | none => valV (kz ks vs) (.inr x) = none
  | [], ds, _, r, e => by
    cases r with
    | nil => exact valV_nil
    | cons a b => cases e
  | k :: ks, ds, _, r, e => by
    cases r with
    | nil => cases e
    | @cons d v ds vs a b =>
      unfold lookD
      by_cases c : k = x
      · rw [if_pos c]
        refine ⟨v, ?_, a⟩
        show valV (((Sum.inr k : Key), v) :: kz ks vs) _ = _
        rw [valV_pos (by rw [c])]
      · rw [if_neg c]
        have z := look_rel (x := x) b (Nat.succ.inj e)
        have e2 : valV (kz (k :: ks) (v :: vs)) (.inr x) = valV (kz ks vs) (.inr x) := by
          show valV (((Sum.inr k : Key), v) :: kz ks vs) _ = _
          rw [valV_neg (by intro q; exact c (Sum.inr.inj q))]
        cases q : lookD ks ds x with
        | none =>
          rw [q] at z
          dsimp only at z ⊢
          rw [e2, z]
        | some w =>
          rw [q] at z
          dsimp only at z ⊢
          rw [e2]
          exact z
theorem look_get {K : PySem.W.Frag} {h : Hm} {ρ : List Addr} {H : Hp} {M : Addr → Prop} {x : Str} {a : Addr} {ks : List Str} {ds : List D} {vs : List V} (l : LieK H M a ks vs) (r : Rels K h ρ H ds vs) : ∃ o, DGet H a (.str x) o ∧ o.isSome = (lookD ks ds x).isSome ∧
    ∀ d, lookD ks ds x = some d → ∃ v, o = some v ∧ Rel K h ρ H d v := by
  refine ⟨valV (kz ks vs) (.inr x), .inl ⟨_, .inr x, l.1, rfl, rfl⟩, ?_⟩
  have z := look_rel (x := x) r l.2.2
  cases q : lookD ks ds x with
  | none =>
    rw [q] at z
    dsimp only at z
    rw [z]
    exact ⟨rfl, fun d e => by cases e⟩
  | some d =>
    rw [q] at z
    obtain ⟨v, e, rv⟩ := z
    rw [e]
    exact ⟨rfl, fun d' e => by cases e; exact ⟨v, rfl, rv⟩⟩
theorem inD_wp {K : PySem.W.Frag} {h : Hm} {ρ : List Addr} {H : Hp} {d e : D} {x y : V} {R : Bool → Hm → Prop} (hr : HR K h ρ H) (r1 : Rel K h ρ H d x) (r2 : Rel K h ρ H e y) (w : (inD d e h).wp R) :
    (∃ a o, y = .ref a ∧ DGet H a x o ∧ R o.isSome h) ∨ ∃ p xs, y = .ref p ∧ (SqL K H p xs ∨ SqT K H p xs) ∧ flatV x = true ∧ xs.all flatV = true ∧ R (inV x xs) h := by
  have seq : ∀ ys, itemsOf h e = some ys → (Res.guard (flatD d && ys.all flatD) (.ok (ys.any fun y => eqFD y d) h)).wp R → ∃ p xs, y = .ref p ∧ (SqL K H p xs ∨ SqT K H p xs) ∧ flatV x = true ∧ xs.all flatV = true ∧ R (inV x xs) h := by
    intro ys ei w
    obtain ⟨c, w⟩ := Res.wp_guard w
    rw [Bool.and_eq_true] at c
    obtain ⟨a, vs, rfl, hs, rr⟩ := r2.seq hr ei
    obtain ⟨f1, f2⟩ := flats_rel r1 c.1 rr c.2
    exact ⟨a, vs, rfl, hs, (flat_rel r1 c.1).1, f1, by rw [← f2]; exact w⟩
  cases e with
  | dict ks ds =>
    cases d with
    | str z =>
      have ex := rI_str r1
      subst ex
      cases r2 with
      | @dict a _ _ vs l rr =>
        obtain ⟨o, g, e1, _⟩ := look_get (x := z) l rr
        exact .inl ⟨a, o, rfl, g, by rw [e1]; exact w⟩
    | _ => exact False.elim w
  | tup ys => exact .inr (seq ys rfl w)
  | lst ys => exact .inr (seq ys rfl w)
  | ref n =>
    cases k : listOf? h n with
    | none =>
      have w : (match listOf? h n with
        | some ys => Res.guard (flatD d && ys.all flatD) (.ok (ys.any fun y => eqFD y d) h)
        | none => .stuck).wp R := w
      rw [k] at w
      exact False.elim w
    | some ys =>
      have w : (match listOf? h n with
        | some ys => Res.guard (flatD d && ys.all flatD) (.ok (ys.any fun y => eqFD y d) h)
        | none => .stuck).wp R := w
      rw [k] at w
      exact .inr (seq ys k w)
  | _ => exact False.elim w
theorem cmR_in (hu : X.A.units + 64 < cLine) : OpR X (compareOp .In) (DRc X.K (cmpD .isin)) := by
  intro pins s σ H x y v u Q I rx ry hq
  obtain ⟨h, ρ, d, e, hr, r1, r2, q⟩ := hq
  rcases inD_wp hr r1 r2 (by cases d <;> exact q) with ⟨a, o, ey, g, q⟩ | ⟨p, xs, ey, hs, f1, f2, q⟩
  · exact op_in_dict (by omega) pins s σ H x y v u Q I rx ry ⟨a, o, ey, g, q _ _ hr Kps.refl⟩
  · exact op_in_seq pins s σ H x y v u Q I rx ry ⟨p, xs, ey, hs, f1, f2, q _ _ hr Kps.refl⟩
theorem cmR_notin (hu : X.A.units + 64 < cLine) : OpR X (compareOp .NotIn) (DRc X.K (cmpD .notin)) := by
  intro pins s σ H x y v u Q I rx ry hq
  obtain ⟨h, ρ, d, e, hr, r1, r2, q⟩ := hq
  have e0 : cmpD .notin d e h = (inD d e h).bind fun c h => .ok (!c) h := by cases d <;> rfl
  rw [e0] at q
  rcases inD_wp hr r1 r2 (Res.wp_bind q) with ⟨a, o, ey, g, q⟩ | ⟨p, xs, ey, hs, f1, f2, q⟩
  · exact op_notin_dict (by omega) pins s σ H x y v u Q I rx ry ⟨a, o, ey, g, q _ _ hr Kps.refl⟩
  · exact op_notIn_seq pins s σ H x y v u Q I rx ry ⟨p, xs, ey, hs, f1, f2, q _ _ hr Kps.refl⟩
def cmB : Cm → CmpOp → Bool
  | .lt, .Lt => true | .le, .LtE => true | .gt, .Gt => true | .ge, .GtE => true | .eq, .Eq => true | .ne, .NotEq => true | .isin, .In => true | .notin, .NotIn => true | _, _ => false
theorem cmR_of (hu : X.A.units + 64 < cLine) : ∀ (o : Cm) (po : CmpOp), cmB o po = true → OpR X (compareOp po) (DRc X.K (cmpD o)) := by
  intro o po e
  cases o <;> cases po <;> first | exact Bool.noConfusion e | exact cmR_lt | exact cmR_le | exact cmR_gt | exact cmR_ge | exact cmR_eq hu | exact cmR_ne hu | exact cmR_in hu | exact cmR_notin hu

/-! ### subscripts -/
theorem atI_rel {K : PySem.W.Frag} {h : Hm} {ρ : List Addr} {H : Hp} {xs : List D} {vs : List V} {i : Int} {d : D} (q : Rels K h ρ H xs vs) (e : atI xs i = some d) : ∃ v, atI vs i = some v ∧ Rel K h ρ H d v := by
  unfold atI at e ⊢
  rw [← q.length]
  cases k : ixN xs.length i with
  | none => rw [k] at e; cases e
  | some j =>
    rw [k] at e
    exact q.get e
theorem ixR_any : IxR X (DR2 X.K ixD) := by
  intro value slice pins s σ H x y v u Q I rx ry hq hs
  obtain ⟨h, ρ, d, e, hr, r1, r2, q⟩ := hq
  cases e with
  | int i =>
    have ey := rI_int r2
    subst ey
    have go : ∀ xs, itemsOf h d = some xs → (match atI xs i with
        | some y => Res.ok y h
        | none => .stuck).wp (fun r h' => ∀ v H' ρ', HR X.K h' ρ' H' → Kp h ρ H h' ρ' H' → Rel X.K h' ρ' H' r v → Q v H') → wpAny (model X.prog X.w) X.A (subscriptTail value slice v u) (EP X pins σ Q) X.xe s := by
      intro xs e q
      cases e2 : atI xs i with
      | none => rw [e2] at q; exact False.elim q
      | some z =>
        rw [e2] at q
        obtain ⟨a, vs, rfl, hsq, rs⟩ := r1.seq hr e
        obtain ⟨w, hw, rw'⟩ := atI_rel rs e2
        rcases hsq with hsq | hsq
        · exact ix_list value slice pins s σ H _ _ v u Q I rx ry ⟨a, vs, i, w, rfl, rfl, hsq, hw, q _ _ _ hr Kps.refl rw'⟩ hs
        · exact ix_tup value slice pins s σ H _ _ v u Q I rx ry ⟨a, vs, i, w, rfl, rfl, hsq, hw, q _ _ _ hr Kps.refl rw'⟩ hs
    cases d with
    | str z =>
      have ex := rI_str r1
      subst ex
      have q : (match atI z.cps.toList i with
        | some c => Res.guard (decide (z.length ≤ LIM)) (Res.ok (D.str ⟨#[c]⟩) h)
        | none => Res.stuck).wp _ := q
      cases e2 : atI z.cps.toList i with
      | none => rw [e2] at q; exact False.elim q
      | some c =>
        rw [e2] at q
        obtain ⟨c1, q⟩ := Res.wp_guard q
        exact ix_str value slice pins s σ H _ _ v u Q I rx ry ⟨z, i, c, rfl, rfl, le_sz c1, e2, q _ _ _ hr Kps.refl (.str _)⟩ hs
    | tup xs => exact go xs rfl q
    | lst xs => exact go xs rfl q
    | ref n =>
      have q : (match listOf? h n with
        | some xs => match atI xs i with
          | some y => Res.ok y h
          | none => Res.stuck
        | none => Res.stuck).wp _ := q
      cases e2 : listOf? h n with
      | none => rw [e2] at q; exact False.elim q
      | some xs =>
        rw [e2] at q
        exact go xs e2 q
    | _ => exact False.elim q
  | _ => cases d <;> exact False.elim q
end

/-! Mini 4: displays, built-ins, isinstance, methods, slices, by values. -/

section
variable {X : Cx} {es : List Expr} {t : TA} {pos : Pos}
/-- a tuple's display; it is known to the object -/
def tTupF (t : TA) : TE := fun σ H Q => t σ H fun xs H1 => xs.length ≤ sizeLine ∧ ∀ (p : Addr) (o : Obj), H1 p = none → o.dict = none → Q (.ref p) (upd H1 p (.frz o (.tup xs)))
theorem pe_tupF {x1} (h : PA X es t) : PE X (.Tuple es x1 pos) (tTupF t) := by
  refine ⟨fun pins s σ H Q I hq => ?_⟩
  refine wpAny_Tuple_spliced (thn (h.run pos pins s σ H _ I hq) fun us s1 ⟨xs, H1, I1, r, z, q⟩ => ⟨by rw [← r.length]; exact z, ?_⟩)
  have hf : H1 s1.heap.objs.size = none := I1.hok.fresh (Nat.le_refl _)
  refine ⟨.ref s1.heap.objs.size, upd H1 s1.heap.objs.size (.frz { cls := .type "tuple", data := .seq us.toArray } (.tup xs)), I1.laid (t' := s1.toks) (fun b u e => Heap.get?_push_of_some _ e) (Nat.le_refl _) ?_, rfl, q _ _ hf rfl⟩
  exact ⟨Heap.get?_push_size _ rfl, z, us, r, ⟨_, Heap.get?_push_size _ rfl, rfl, _, rfl⟩⟩
/-- tuple(xs) of a list: known to the object -/
theorem call_tupleF : CallR X (.type "tuple") (fun xs H Q => ∃ p ys, xs = [.ref p] ∧ ((SqL X.K H p ys ∧ ∀ (l : Addr) (o : Obj), H l = none → o.dict = none → Q (.ref l) (upd H l (.frz o (.tup ys)))) ∨ (SqT X.K H p ys ∧ Q (.ref p) H))) := by
  intro pins s σ H xs us Q I r h
  obtain ⟨p, ys, rfl, h⟩ := h
  obtain ⟨u, rfl, rx⟩ := vals1 r
  cases rx
  rcases h with ⟨hq, q⟩ | ⟨hq, q⟩
  · obtain ⟨its, r', pl, hz⟩ := I.list hq
    have hlen := r'.length
    refine call_tuple_list pl.isList (fun h' kp => ?_) (by simp only [List.size_toArray] <;> omega)
    have I1 : Inv X pins σ H { s with heap := h' } := I.kept (t' := s.toks) kp
    have I2 : Inv X pins σ (upd H h'.objs.size (.frz { cls := .type "tuple", data := .seq its.toArray } (.tup ys))) { s with heap := h'.push { cls := .type "tuple", data := .seq its.toArray } } :=
      I1.laid (t' := s.toks) (fun b o e => Heap.get?_push_of_some _ e) (Nat.le_refl _) (show ObjOk X.prog X.w _ _ _ (.frz _ (.tup ys)) from ⟨Heap.get?_push_size _ rfl, hz, its, r', IsTup.new _ _⟩)
    exact ⟨.ref h'.objs.size, _, I2, rfl, q _ _ (I1.hok.fresh (Nat.le_refl _)) rfl⟩
  · obtain ⟨its, r', pl, hz⟩ := I.tuple hq
    exact call_tuple_same pl ⟨.ref p, H, I, rfl, q⟩
theorem callW {f : Value} {r r' : List V → Hp → VK → Prop} (p : CallR X f r) (w : ∀ xs H Q, r' xs H Q → r xs H Q) : CallR X f r' := fun pins s σ H xs us Q I rs q => p pins s σ H xs us Q I rs (w xs H Q q)

section
variable {K : PySem.W.Frag} {h : Hm} {ρ : List Addr} {H : Hp}
theorem rels1 {d : D} {vs : List V} (r : Rels K h ρ H [d] vs) : ∃ v, vs = [v] ∧ Rel K h ρ H d v := by
  cases r with
  | cons a b => cases b; exact ⟨_, rfl, a⟩
theorem rels2 {d e : D} {vs : List V} (r : Rels K h ρ H [d, e] vs) : ∃ v w, vs = [v, w] ∧ Rel K h ρ H d v ∧ Rel K h ρ H e w := by
  cases r with
  | cons a b =>
    obtain ⟨w, rfl, q⟩ := rels1 b
    exact ⟨_, w, rfl, a, q⟩
theorem bools_rel : ∀ {xs : List D} {bs : List Bool} {vs : List V}, boolsOf xs = some bs → Rels K h ρ H xs vs → vs = bs.map V.bl
  | [], _, _, e, r => by cases e; cases r; rfl
  | x :: xs, bs, _, e, r => by
    cases r with
    | cons a b =>
      cases x with
      | bl c =>
        have e : (boolsOf xs).map (c :: ·) = some bs := e
        cases k : boolsOf xs with
        | none => rw [k] at e; cases e
        | some cs =>
          rw [k] at e
          cases e
          rw [rI_bl a, bools_rel k b] <;> rfl
      | _ => cases e
theorem ints_rel : ∀ {xs : List D} {bs : List Int} {vs : List V}, intsOf xs = some bs → Rels K h ρ H xs vs → vs = bs.map V.int
  | [], _, _, e, r => by cases e; cases r; rfl
  | x :: xs, bs, _, e, r => by
    cases r with
    | cons a b =>
      cases x with
      | int c =>
        have e : (intsOf xs).map (c :: ·) = some bs := e
        cases k : intsOf xs with
        | none => rw [k] at e; cases e
        | some cs =>
          rw [k] at e
          cases e
          rw [rI_int a, ints_rel k b] <;> rfl
      | _ => cases e
theorem strs_rel : ∀ {xs : List D} {bs : List Str} {vs : List V}, strsOf xs = some bs → Rels K h ρ H xs vs → vs = bs.map V.str
  | [], _, _, e, r => by cases e; cases r; rfl
  | x :: xs, bs, _, e, r => by
    cases r with
    | cons a b =>
      cases x with
      | str c =>
        have e : (strsOf xs).map (c :: ·) = some bs := e
        cases k : strsOf xs with
        | none => rw [k] at e; cases e
        | some cs =>
          rw [k] at e
          cases e
          rw [rI_str a, strs_rel k b] <;> rfl
      | _ => cases e
theorem Rel.lstv {d : D} {v : V} {xs : List D} (r : HR K h ρ H) (q : Rel K h ρ H d v) (i : lstOf h d = some xs) : ∃ a vs, v = .ref a ∧ SqL K H a vs ∧ Rels K h ρ H xs vs := by
  cases q with
  | lst l q =>
    cases i
    exact ⟨_, _, rfl, l.sq, q⟩
  | @ref n a e =>
    obtain ⟨vs, h1, h2⟩ := r.ref e i
    exact ⟨a, vs, rfl, SqL.of h1, h2⟩
  | _ => cases i
end

def biVal : Bi → Value
  | .len => .builtin "len" | .abs => .builtin "abs" | .int => .type "int" | .tuple => .type "tuple" | .list => .type "list"
  | .all => .builtin "all" | .any => .builtin "any" | .sum => .builtin "sum" | .max2 => .builtin "max" | .min2 => .builtin "min" | .str => .type "str" | .sorted => .builtin "sorted" | .repr => .builtin "repr"
def biName : Bi → Str
  | .len => "len" | .abs => "abs" | .int => "int" | .tuple => "tuple" | .list => "list"
  | .all => "all" | .any => "any" | .sum => "sum" | .max2 => "max" | .min2 => "min" | .str => "str" | .sorted => "sorted" | .repr => "repr"

theorem biR_len : CallR X (.builtin "len") (DRs X.K (biD .len)) := by
  intro pins s σ H xs us Q I rs hq
  obtain ⟨h, ρ, ds, hr, r, q⟩ := hq
  have go : ∀ d ys, ds = [d] → itemsOf h d = some ys → (∀ v H' ρ', HR X.K h ρ' H' → Kp h ρ H h ρ' H' → Rel X.K h ρ' H' (.int ys.length) v → Q v H') → wpAny (model X.prog X.w) X.A (call (.builtin "len") us) (EP X pins σ Q) X.xe s := by
    rintro d ys rfl e q
    obtain ⟨v, rfl, rv⟩ := rels1 r
    obtain ⟨a, vs, rfl, hsq, rss⟩ := rv.seq hr e
    exact call_len_seq pins s σ H _ us Q I rs ⟨a, vs, rfl, hsq, by rw [← rss.length]; exact q _ _ _ hr Kps.refl (.int _)⟩
  match ds, r, q with
  | [], _, q => exact False.elim q
  | [.str x], r, q =>
    obtain ⟨c, q⟩ := Res.wp_guard q
    obtain ⟨v, rfl, rv⟩ := rels1 r
    exact call_len_str pins s σ H _ us Q I rs ⟨x, by rw [rI_str rv], le_sz c, q _ _ _ hr Kps.refl (.int _)⟩
  | [.tup ys], r, q => exact go _ _ rfl rfl q
  | [.lst ys], r, q => exact go _ _ rfl rfl q
  | [.ref n], r, q =>
    have q : (match listOf? h n with
      | some xs => Res.ok (D.int xs.length) h
      | none => Res.stuck).wp _ := q
    cases e : listOf? h n with
    | none => rw [e] at q; exact False.elim q
    | some ys =>
      rw [e] at q
      exact go _ ys rfl e q
  | [.non], _, q => exact False.elim q
  | [.bl _], _, q => exact False.elim q
  | [.int _], _, q => exact False.elim q
  | [.wtup _], _, q => exact False.elim q
  | [.dict _ _], _, q => exact False.elim q
  | [.fn _ _], _, q => exact False.elim q
  | a :: b :: c, _, q => cases a <;> exact False.elim q
theorem biR_abs : CallR X (.builtin "abs") (DRs X.K (biD .abs)) := callW call_abs fun xs H Q hq => by
  obtain ⟨h, ρ, ds, hr, r, q⟩ := hq
  match ds, r, q with
  | [.int i], r, q =>
    obtain ⟨v, rfl, rv⟩ := rels1 r
    exact ⟨i, by rw [rI_int rv], q _ _ _ hr Kps.refl (.int _)⟩
theorem biR_int : CallR X (.type "int") (DRs X.K (biD .int)) := callW call_int1 fun xs H Q hq => by
  obtain ⟨h, ρ, ds, hr, r, q⟩ := hq
  match ds, r, q with
  | [.int i], r, q =>
    obtain ⟨v, rfl, rv⟩ := rels1 r
    exact .inl ⟨i, by rw [rI_int rv], q _ _ _ hr Kps.refl (.int _)⟩
  | [.bl i], r, q =>
    obtain ⟨v, rfl, rv⟩ := rels1 r
    exact .inr ⟨i, by rw [rI_bl rv], q _ _ _ hr Kps.refl (.int _)⟩
theorem biR_tuple : CallR X (.type "tuple") (DRs X.K (biD .tuple)) := callW call_tupleF fun xs H Q hq => by
  obtain ⟨h, ρ, ds, hr, r, q⟩ := hq
  match ds, r, q with
  | [.tup ys], r, q =>
    obtain ⟨v, rfl, rv⟩ := rels1 r
    cases rv with
    | tup l rr => exact ⟨_, _, rfl, .inr ⟨l.sq, q _ _ _ hr Kps.refl (.tup l rr)⟩⟩
  | [.lst ys], r, q =>
    obtain ⟨v, rfl, rv⟩ := rels1 r
    cases rv with
    | lst l rr => exact ⟨_, _, rfl, .inl ⟨l.sq, fun p o hp ho => q _ _ _ (hr.new hp) (Kp.new hr hp) (Rel.newT hr hp ho rr)⟩⟩
  | [.ref n], r, q =>
    have q : (match listOf? h n with
      | some xs => Res.ok (D.tup xs) h
      | none => Res.stuck).wp _ := q
    cases e : listOf? h n with
    | none => rw [e] at q; exact False.elim q
    | some ys =>
      rw [e] at q
      obtain ⟨v, rfl, rv⟩ := rels1 r
      obtain ⟨a, vs, rfl, hsq, rr⟩ := rv.lstv hr e
      exact ⟨_, _, rfl, .inl ⟨hsq, fun p o hp ho => q _ _ _ (hr.new hp) (Kp.new hr hp) (Rel.newT hr hp ho rr)⟩⟩
  | [], _, q => exact False.elim q
  | [.non], _, q => exact False.elim q
  | [.bl _], _, q => exact False.elim q
  | [.int _], _, q => exact False.elim q
  | [.str _], _, q => exact False.elim q
  | [.wtup _], _, q => exact False.elim q
  | [.dict _ _], _, q => exact False.elim q
  | [.fn _ _], _, q => exact False.elim q
  | a :: b :: c, _, q => cases a <;> exact False.elim q
theorem biR_list : CallR X (.type "list") (DRs X.K (biD .list)) := callW call_list_of fun xs H Q hq => by
  obtain ⟨h, ρ, ds, hr, r, q⟩ := hq
  have go : ∀ d ys, ds = [d] → itemsOf h d = some ys → (∀ v H' ρ', HR X.K h ρ' H' → Kp h ρ H h ρ' H' → Rel X.K h ρ' H' (.lst ys) v → Q v H') → ∃ p ys, xs = [.ref p] ∧ (SqL X.K H p ys ∨ SqT X.K H p ys) ∧ ∀ l, H l = none → Q (.ref l) (upd H l (.lst ys)) := by
    rintro d ys rfl e q
    obtain ⟨v, rfl, rv⟩ := rels1 r
    obtain ⟨a, vs, rfl, hsq, rr⟩ := rv.seq hr e
    exact ⟨_, _, rfl, hsq, fun p hp => q _ _ _ (hr.new hp) (Kp.new hr hp) (Rel.newL hr hp rr)⟩
  match ds, r, q with
  | [.tup ys], r, q => exact go _ _ rfl rfl q
  | [.lst ys], r, q => exact go _ _ rfl rfl q
  | [.ref n], r, q =>
    have q : (match listOf? h n with
      | some xs => Res.ok (D.lst xs) h
      | none => Res.stuck).wp _ := q
    cases e : listOf? h n with
    | none => rw [e] at q; exact False.elim q
    | some ys =>
      rw [e] at q
      exact go _ ys rfl e q
  | [], _, q => exact False.elim q
  | [.non], _, q => exact False.elim q
  | [.bl _], _, q => exact False.elim q
  | [.int _], _, q => exact False.elim q
  | [.str _], _, q => exact False.elim q
  | [.wtup _], _, q => exact False.elim q
  | [.dict _ _], _, q => exact False.elim q
  | [.fn _ _], _, q => exact False.elim q
  | a :: b :: c, _, q => cases a <;> exact False.elim q
theorem lst_bools {K : PySem.W.Frag} {h : Hm} {ρ : List Addr} {H : Hp} {d : D} {v : V} {bs : List Bool} (hr : HR K h ρ H) (rv : Rel K h ρ H d v) (e : (lstOf h d).bind boolsOf = some bs) : ∃ a, v = .ref a ∧ SqL K H a (bs.map V.bl) := by
  cases k : lstOf h d with
  | none => rw [k] at e; cases e
  | some ys =>
    rw [k] at e
    obtain ⟨a, vs, rfl, hsq, rr⟩ := rv.lstv hr k
    have := bools_rel (show boolsOf ys = some bs from e) rr
    subst this
    exact ⟨a, rfl, hsq⟩
theorem biR_all (hc : X.calm = true) : CallR X (.builtin "all") (DRs X.K (biD .all)) := callW (cr_all hc) fun xs H Q hq => by
  obtain ⟨h, ρ, ds, hr, r, q⟩ := hq
  match ds, r, q with
  | [d], r, q =>
    have q : (match (lstOf h d).bind boolsOf with
      | some bs => Res.ok (D.bl (bs.all id)) h
      | none => Res.stuck).wp _ := q
    cases e : (lstOf h d).bind boolsOf with
    | none => rw [e] at q; exact False.elim q
    | some bs =>
      rw [e] at q
      obtain ⟨v, rfl, rv⟩ := rels1 r
      obtain ⟨a, rfl, hs⟩ := lst_bools hr rv e
      exact ⟨a, bs, rfl, hs, q _ _ _ hr Kps.refl (.bl _)⟩
theorem biR_any (hc : X.calm = true) : CallR X (.builtin "any") (DRs X.K (biD .any)) := callW (cr_any hc) fun xs H Q hq => by
  obtain ⟨h, ρ, ds, hr, r, q⟩ := hq
  match ds, r, q with
  | [d], r, q =>
    have q : (match (lstOf h d).bind boolsOf with
      | some bs => Res.ok (D.bl (bs.any id)) h
      | none => Res.stuck).wp _ := q
    cases e : (lstOf h d).bind boolsOf with
    | none => rw [e] at q; exact False.elim q
    | some bs =>
      rw [e] at q
      obtain ⟨v, rfl, rv⟩ := rels1 r
      obtain ⟨a, rfl, hs⟩ := lst_bools hr rv e
      exact ⟨a, bs, rfl, hs, q _ _ _ hr Kps.refl (.bl _)⟩
theorem biR_sum (hc : X.calm = true) : CallR X (.builtin "sum") (DRs X.K (biD .sum)) := callW (cr_sum hc) fun xs H Q hq => by
  obtain ⟨h, ρ, ds, hr, r, q⟩ := hq
  match ds, r, q with
  | [d], r, q =>
    have q : (match (lstOf h d).bind intsOf with
      | some bs => Res.ok (D.int bs.sum) h
      | none => Res.stuck).wp _ := q
    cases e : (lstOf h d).bind intsOf with
    | none => rw [e] at q; exact False.elim q
    | some bs =>
      rw [e] at q
      obtain ⟨v, rfl, rv⟩ := rels1 r
      cases k : lstOf h d with
      | none => rw [k] at e; cases e
      | some ys =>
        rw [k] at e
        obtain ⟨a, vs, rfl, hsq, rr⟩ := rv.lstv hr k
        have := ints_rel (show intsOf ys = some bs from e) rr
        subst this
        exact ⟨a, bs, rfl, hsq, q _ _ _ hr Kps.refl (.int _)⟩
theorem biR_max2 (hc : X.calm = true) : CallR X (.builtin "max") (DRs X.K (biD .max2)) := callW (call_max2 hc) fun xs H Q hq => by
  obtain ⟨h, ρ, ds, hr, r, q⟩ := hq
  match ds, r, q with
  | [.int i, .int j], r, q =>
    obtain ⟨v, w, rfl, rv, rw'⟩ := rels2 r
    exact ⟨i, j, by rw [rI_int rv, rI_int rw'], q _ _ _ hr Kps.refl (.int _)⟩
theorem biR_min2 (hc : X.calm = true) : CallR X (.builtin "min") (DRs X.K (biD .min2)) := callW (call_min2 hc) fun xs H Q hq => by
  obtain ⟨h, ρ, ds, hr, r, q⟩ := hq
  match ds, r, q with
  | [.int i, .int j], r, q =>
    obtain ⟨v, w, rfl, rv, rw'⟩ := rels2 r
    exact ⟨i, j, by rw [rI_int rv, rI_int rw'], q _ _ _ hr Kps.refl (.int _)⟩
theorem biR_str : CallR X (.type "str") (DRs X.K (biD .str)) := callW call_str_int fun xs H Q hq => by
  obtain ⟨h, ρ, ds, hr, r, q⟩ := hq
  match ds, r, q with
  | [.int i], r, q =>
    obtain ⟨c, q⟩ := Res.wp_guard q
    obtain ⟨v, rfl, rv⟩ := rels1 r
    exact ⟨i, by rw [rI_int rv], of_decide_eq_true c, q _ _ _ hr Kps.refl (.str _)⟩

/-! ### sorted -/
theorem pairsOf_eq : ∀ {ds : List D} {ps : List (Int × Int)}, pairsOf ds = some ps → ds = unpairs ps
  | [], _, e => by cases e; rfl
  | d :: ds, ps, e => by
    unfold pairsOf at e
    split at e
    · rename_i z; cases z
    · rename_i i j r z
      cases z
      cases k : pairsOf ds with
      | none => rw [k] at e; cases e
      | some qs =>
        rw [k] at e
        cases e
        rw [pairsOf_eq k]
        rfl
    · cases e
theorem insP_perm (p : Int × Int) : ∀ l, (insP p l).Perm (p :: l)
  | [] => .refl _
  | q :: r => by
    unfold insP
    split
    · exact ((insP_perm p r).cons q).trans (.swap p q r)
    · exact .refl _
theorem sortP_perm : ∀ l, (sortP l).Perm l
  | [] => .refl _
  | p :: r => (insP_perm p _).trans ((sortP_perm r).cons p)
theorem lexB_irrefl (p : Int × Int) : SrtO.lexB p p = false := SrtO.lexB_no.mpr (by omega)
theorem lexB_le_trans {p q r : Int × Int} (h1 : SrtO.lexB q p = false) (h2 : SrtO.lexB r q = false) : SrtO.lexB r p = false := by
  have a := SrtO.lexB_no.mp h1
  have b := SrtO.lexB_no.mp h2
  refine SrtO.lexB_no.mpr ?_
  omega
theorem lexB_antisymm {p q : Int × Int} (h1 : SrtO.lexB q p = false) (h2 : SrtO.lexB p q = false) : p = q := by
  have a := SrtO.lexB_no.mp h1
  have b := SrtO.lexB_no.mp h2
  refine Prod.ext ?_ ?_ <;> omega
theorem insP_srt (p : Int × Int) : ∀ {l : List (Int × Int)}, l.Pairwise (fun x y => SrtO.lexB y x = false) → (insP p l).Pairwise (fun x y => SrtO.lexB y x = false)
  | [], _ => List.pairwise_singleton _ _
  | q :: r, h => by
    obtain ⟨h1, h2⟩ := List.pairwise_cons.mp h
    unfold insP
    split
    · rename_i c
      refine List.pairwise_cons.mpr ⟨fun y hy => ?_, insP_srt p h2⟩
      rcases List.mem_cons.mp ((insP_perm p r).mem_iff.mp hy) with e | hy
      · subst e
        have c := SrtO.lexB_iff.mp c
        refine SrtO.lexB_no.mpr ?_
        omega
      · exact h1 y hy
    · rename_i c
      have c : SrtO.lexB q p = false := by cases k : SrtO.lexB q p with
        | true => exact absurd k c
        | false => rfl
      refine List.pairwise_cons.mpr ⟨fun y hy => ?_, h⟩
      rcases List.mem_cons.mp hy with e | hy
      · subst e
        exact c
      · exact lexB_le_trans c (h1 y hy)
theorem sortP_srt : ∀ l : List (Int × Int), (sortP l).Pairwise (fun x y => SrtO.lexB y x = false)
  | [] => .nil
  | p :: r => insP_srt p (sortP_srt r)
theorem srt_uniq : ∀ {l m : List (Int × Int)}, l.Perm m → l.Pairwise (fun x y => SrtO.lexB y x = false) → m.Pairwise (fun x y => SrtO.lexB y x = false) → l = m
  | [], m, p, _, _ => (p.symm.eq_nil).symm
  | x :: l, [], p, _, _ => p.eq_nil
  | x :: l, y :: m, p, hl, hm => by
    obtain ⟨a1, a2⟩ := List.pairwise_cons.mp hl
    obtain ⟨b1, b2⟩ := List.pairwise_cons.mp hm
    have e : x = y := by
      have h1 : SrtO.lexB y x = false := by
        rcases List.mem_cons.mp (p.symm.mem_iff.mp (List.mem_cons_self (a := y) (l := m))) with e | h
        · rw [e]; exact lexB_irrefl _
        · exact a1 y h
      have h2 : SrtO.lexB x y = false := by
        rcases List.mem_cons.mp (p.mem_iff.mp (List.mem_cons_self (a := x) (l := l))) with e | h
        · rw [e]; exact lexB_irrefl _
        · exact b1 x h
      exact lexB_antisymm h1 h2
    subst e
    rw [srt_uniq p.cons_inv a2 b2]
/-- a pair as it lies in a heap -/
def pairAt (h : Heap) : Value → Int × Int
  | .ref t => match h.get? t with
    | some o => match o.data with
      | .seq its _ => match its.toList with
        | [.int i _, .int j _] => (i, j)
        | _ => (0, 0)
      | _ => (0, 0)
    | none => (0, 0)
  | _ => (0, 0)
/-- carried along a permutation -/
theorem rel_perm {K : PySem.W.Frag} {h : Hm} {ρ : List Addr} {H : Hp} {out us : List Value} (p : us.Perm out) : ∀ {ds : List D} {vs : List V}, Rels K h ρ H ds vs → Vals vs us → ∃ ds' vs', Rels K h ρ H ds' vs' ∧ Vals vs' out ∧ ds.Perm ds' := by
  induction p with
  | nil =>
    intro ds vs r q
    exact ⟨ds, vs, r, q, .refl _⟩
  | cons x p ih =>
    intro ds vs r q
    cases q with
    | cons a b =>
      cases r with
      | cons c d =>
        obtain ⟨ds', vs', r', q', p'⟩ := ih d b
        exact ⟨_ :: ds', _ :: vs', .cons c r', .cons a q', p'.cons _⟩
  | swap x y l =>
    intro ds vs r q
    cases q with
    | cons a b =>
      cases b with
      | cons a2 b =>
        cases r with
        | cons c d =>
          cases d with
          | cons c2 d => exact ⟨_, _, .cons c2 (.cons c d), .cons a2 (.cons a b), .swap _ _ _⟩
  | trans p1 p2 ih1 ih2 =>
    intro ds vs r q
    obtain ⟨ds1, vs1, r1, q1, p1'⟩ := ih1 r q
    obtain ⟨ds2, vs2, r2, q2, p2'⟩ := ih2 r1 q1
    exact ⟨ds2, vs2, r2, q2, p1'.trans p2'⟩
theorem toPys_len : ∀ {es : List D} {ps : List PyData}, toPys es = some ps → es.length = ps.length
  | [], ps, e => by
    unfold toPys at e
    cases e
    rfl
  | d :: es, ps, e => by
    unfold toPys at e
    split at e
    · rename_i p q e1 e2
      cases e
      rw [List.length_cons, List.length_cons, toPys_len e2]
    · cases e
theorem zip_snd {α β : Type} : ∀ {xs : List α} {ys : List β}, xs.length = ys.length → (xs.zip ys).map (fun b => b.2) = ys
  | [], [], _ => rfl
  | x :: xs, y :: ys, h => by
    rw [List.zip_cons_cons, List.map_cons, zip_snd (by simpa using h)]
  | [], _ :: _, h => by simp at h
  | _ :: _, [], h => by simp at h
theorem each_rel {K : PySem.W.Frag} {h : Hm} {ρ : List Addr} {H : Hp} {X : Cx} {pins : List (Addr × Obj)} {σ : L2.St} {s : Shared} (I : Inv X pins σ H s) (e : X.K = K) : ∀ {es : List D} {ps : List PyData} {vs : List V} {us : List Value}, toPys es = some ps → Rels K h ρ H es vs → Vals vs us →
    PySem.W.EachIs (fun u (b : D × PyData) => ∃ v, Rel K h ρ H b.1 v ∧ RelV v u) us (es.zip ps) ∧ PySem.W.EachIs (fun u (b : D × PyData) => ∃ as, Reads s.heap u b.2 as) us (es.zip ps)
  | [], ps, vs, us, t, r, q => by
    unfold toPys at t
    cases t
    cases r
    cases q
    exact ⟨.nil, .nil⟩
  | d :: es, ps, vs, us, t, r, q => by
    unfold toPys at t
    split at t
    · rename_i p ps' e1 e2
      cases t
      cases r with
      | cons a b =>
        cases q with
        | cons c d =>
          obtain ⟨i1, i2⟩ := each_rel I e e2 b d
          refine ⟨.cons ⟨_, a, c⟩ i1, .cons ?_ i2⟩
          subst e
          exact (a.py e1).reads I _ _ _ c
    · cases t
theorem each_back {K : PySem.W.Frag} {h : Hm} {ρ : List Addr} {H : Hp} : ∀ {bs : List (D × PyData)} {us : List Value}, PySem.W.EachIs (fun u (b : D × PyData) => ∃ v, Rel K h ρ H b.1 v ∧ RelV v u) us bs → ∃ vs, Rels K h ρ H (bs.map fun b => b.1) vs ∧ Vals vs us
  | [], us, e => by
    cases e
    exact ⟨[], .nil, .nil⟩
  | b :: bs, us, e => by
    cases e with
    | cons a r =>
      obtain ⟨v, a1, a2⟩ := a
      obtain ⟨vs, b1, b2⟩ := each_back r
      exact ⟨v :: vs, .cons a1 b1, .cons a2 b2⟩
theorem biR_sorted (hu : X.A.units + 64 < cLine) : CallR X (.builtin "sorted") (DRs X.K (biD .sorted)) := by
  intro pins s σ H xs us Q I rs hq
  obtain ⟨h, ρ, ds, hr, r, q⟩ := hq
  match ds, r, q with
  | [], _, q => exact False.elim q
  | a :: b :: c, _, q => cases a <;> exact False.elim q
  | [d], r, q =>
    have qe : biD .sorted [d] h = (match lstOf h d with
      | some es => sortedR es h
      | none => Res.stuck) := by cases d <;> rfl
    rw [qe] at q
    cases k : lstOf h d with
    | none => rw [k] at q; exact False.elim q
    | some es =>
      rw [k] at q
      have q : (match pairsOf es with
        | some ps => Res.ok (D.lst (unpairs (sortP ps))) h
        | none => dataR es h).wp _ := q
      cases k2 : pairsOf es with
      | none =>
        rw [k2] at q
        have q : (match toPys es with
          | some ps => Res.guard (alikeB ps && (ps.all nonTup || ps.all someTup) && (ps.all fun p => decide (p.depth ≤ 60)) && decide (es.length ≤ 1000)) (Res.ok (D.lst (sortD es ps)) h)
          | none => Res.stuck).wp _ := q
        cases k3 : toPys es with
        | none => rw [k3] at q; exact False.elim q
        | some ps =>
          rw [k3] at q
          obtain ⟨c, q⟩ := Res.wp_guard q
          rw [Bool.and_eq_true, Bool.and_eq_true, Bool.and_eq_true, decide_eq_true_eq] at c
          obtain ⟨⟨⟨c1, c2⟩, c3⟩, c4⟩ := c
          obtain ⟨v, rfl, rv⟩ := rels1 r
          obtain ⟨a, vs, rfl, hs, rr⟩ := rv.lstv hr k
          obtain ⟨its, ri, hl, hz⟩ := I.list hs
          obtain ⟨u, rfl, ru⟩ := vals1 rs
          obtain rfl : u = Value.ref a := ru
          obtain ⟨i1, i2⟩ := each_rel I rfl k3 rr ri
          have zs := zip_snd (toPys_len k3)
          have hzl : (es.zip ps).length = es.length := by rw [List.length_zip, ← toPys_len k3, Nat.min_self]
          refine PySem.W.sorted_data (bs := es.zip ps) (enc := fun b => b.2) hl.isList i1 i2 ?_ ?_ ?_ ?_ fun out ho eo => ?_
          · rw [zs]
            intro p hp p' hp'
            exact List.all_eq_true.mp (List.all_eq_true.mp c1 p hp) p' hp'
          · rw [zs]
            rw [Bool.or_eq_true] at c2
            rcases c2 with c2 | c2
            · refine .inr fun p hp => ?_
              have := List.all_eq_true.mp c2 p hp
              cases p <;> first | exact Bool.noConfusion this | exact ⟨(fun z => by cases z), (fun _ z => by cases z)⟩
            · refine .inl fun p hp => ?_
              have := List.all_eq_true.mp c2 p hp
              cases p <;> first | exact Bool.noConfusion this | skip
              rename_i xs
              cases xs with
              | nil => exact Bool.noConfusion this
              | cons x xs => exact ⟨x, xs, rfl⟩
          · rw [hzl]
            exact Nat.le_trans c4 (show (1000 : Nat) ≤ 2 ^ 24 by decide)
          · intro b hb
            have := of_decide_eq_true (List.all_eq_true.mp c3 b.2 (List.of_mem_zip hb).2)
            omega
          · obtain ⟨vs', r', q'⟩ := each_back eo
            obtain ⟨n, hn⟩ := sortedAll_at s.heap its out.toArray
            have hd : s.heap.objs.size ≤ s.heap.objs.size + 1 := Nat.le_succ _
            have hp : H (s.heap.objs.size + 1) = none := I.hok.fresh hd
            refine ⟨.ref (s.heap.objs.size + 1), upd H (s.heap.objs.size + 1) (.lst vs'), I.laid (t' := s.toks) (fun _ _ => sortedAll_old) hd ⟨?_, out, n, q', hn⟩, rfl, q _ _ _ (hr.new hp) (Kp.new hr hp) (Rel.newL hr hp r')⟩
            rw [q'.length, ho, hzl]
            exact Nat.le_trans c4 (show (1000 : Nat) ≤ 2 ^ 24 by decide)
      | some ps =>
        rw [k2] at q
        obtain ⟨v, rfl, rv⟩ := rels1 r
        obtain ⟨a, vs, rfl, hs, rr⟩ := rv.lstv hr k
        obtain ⟨its, ri, hl, hz⟩ := I.list hs
        obtain ⟨u, rfl, ru⟩ := vals1 rs
        obtain rfl : u = Value.ref a := ru
        have ee := pairsOf_eq k2
        -- each item
        have at1 : ∀ (i j : Int) (v : V) (u : Value), Rel X.K h ρ H (.tup [.int i, .int j]) v → RelV v u → Srt.IsPair s.heap u i j ∧ pairAt s.heap u = (i, j) := by
          intro i j v u rv ru
          cases rv with
          | @tup t _ ws l rr =>
            obtain ⟨x, y, rfl, rx, ry⟩ := rels2 rr
            rw [rI_int rx, rI_int ry] at l
            obtain rfl : u = Value.ref t := ru
            obtain ⟨its2, r2, ⟨o, ho, hc, n, hd⟩, _⟩ := I.tuple l.sq
            obtain ⟨u1, u2, rfl, rt1, rt2⟩ := vals2 r2
            obtain ⟨t1, rfl⟩ := rt1
            obtain ⟨t2, rfl⟩ := rt2
            refine ⟨⟨t, o, t1, t2, n, rfl, ho, hc, hd⟩, ?_⟩
            unfold pairAt
            simp only [ho, hd]
        have all1 : ∀ (ps : List (Int × Int)) (vs : List V) (us : List Value), Rels X.K h ρ H (unpairs ps) vs → Vals vs us → us.map (pairAt s.heap) = ps ∧ ∀ u ∈ us, Srt.IsPair s.heap u (pairAt s.heap u).1 (pairAt s.heap u).2 := by
          intro ps
          induction ps with
          | nil =>
            intro vs us r q
            cases r
            cases q
            exact ⟨rfl, fun u hu => absurd hu (by simp)⟩
          | cons p ps ih =>
            intro vs us r q
            cases r with
            | cons c d =>
              cases q with
              | cons a b =>
                obtain ⟨e1, e2⟩ := at1 _ _ _ _ c a
                obtain ⟨e3, e4⟩ := ih _ _ d b
                refine ⟨by rw [List.map_cons, e2, e3], fun u hu => ?_⟩
                rcases List.mem_cons.mp hu with e | hu
                · subst e
                  rw [e2]
                  exact e1
                · exact e4 u hu
        have rr' : Rels X.K h ρ H (unpairs ps) vs := by rw [← ee]; exact rr
        obtain ⟨m1, m2⟩ := all1 ps vs its rr' ri
        refine SrtO.sorted_pairsO (k := pairAt s.heap) hl.isList (by rw [← ri.length]; exact hz) m2 fun h' d out h1 h2 kp hd hn => ?_
        obtain ⟨ds', vs', r', q', p'⟩ := rel_perm h2.perm.symm rr' ri
        have pe : ∃ ps', ds' = unpairs ps' ∧ ps.Perm ps' := by
          have : ∀ {es fs : List D}, es.Perm fs → ∀ ps, es = unpairs ps → ∃ ps', fs = unpairs ps' ∧ ps.Perm ps' := by
            intro es fs p
            induction p with
            | nil => intro ps e; exact ⟨ps, e, .refl _⟩
            | cons x p ih =>
              intro ps e
              cases ps with
              | nil => cases e
              | cons a ps =>
                obtain ⟨e1, e2⟩ := List.cons.inj e
                obtain ⟨ps', e3, e4⟩ := ih ps e2
                exact ⟨a :: ps', by rw [e1, e3]; rfl, e4.cons a⟩
            | swap x y l =>
              intro ps e
              match ps, e with
              | a :: b :: ps, e =>
                obtain ⟨e1, e2⟩ := List.cons.inj e
                obtain ⟨e3, e4⟩ := List.cons.inj e2
                exact ⟨b :: a :: ps, by rw [e1, e3, e4]; rfl, .swap _ _ _⟩
            | trans p1 p2 ih1 ih2 =>
              intro ps e
              obtain ⟨ps1, e1, q1⟩ := ih1 ps e
              obtain ⟨ps2, e2, q2⟩ := ih2 ps1 e1
              exact ⟨ps2, e2, q1.trans q2⟩
          exact this p' ps rfl
        obtain ⟨ps', ed, pp⟩ := pe
        subst ed
        obtain ⟨m3, _⟩ := all1 ps' vs' out r' q'
        have es : ps' = sortP ps := by
          refine srt_uniq ((pp.symm).trans (sortP_perm ps).symm) ?_ (sortP_srt ps)
          rw [← m3]
          exact List.pairwise_map.mpr h1
        subst es
        obtain ⟨n, hn⟩ := hn
        have hp : H d = none := I.hok.fresh hd
        refine ⟨.ref d, upd H d (.lst vs'), I.laid (t' := s.toks) kp hd ⟨?_, out, n, q', hn⟩, rfl, q _ _ _ (hr.new hp) (Kp.new hr hp) (Rel.newL hr hp r')⟩
        have := h2.len
        rw [q'.length, this, ← ri.length]
        exact hz
theorem biR_repr (hg : X.A.guards = some []) (hu : X.A.units + 64 < cLine) : CallR X (.builtin "repr") (DRs X.K (biD .repr)) := by
  intro pins s σ H xs us Q I rs hq
  obtain ⟨h, ρ, ds, hr, r, q⟩ := hq
  match ds, r, q with
  | [], _, q => exact False.elim q
  | _ :: _ :: _, _, q => exact False.elim q
  | [d], r, q =>
    have q : (reprD d h).wp _ := q
    obtain ⟨v, rfl, rv⟩ := rels1 r
    unfold reprD at q
    split at q
    · rename_i p e1 e2
      obtain ⟨c, q⟩ := Res.wp_guard q
      rw [Bool.and_eq_true, Bool.and_eq_true, Bool.and_eq_true] at c
      obtain ⟨⟨⟨c1, c2⟩, c3⟩, c4⟩ := c
      have dp := rv.pyH hr e2
      have ea : ∃ a, v = .ref a := by
        cases rv <;> first | exact ⟨_, rfl⟩ | exact Bool.noConfusion e1
      obtain ⟨a, rfl⟩ := ea
      cases rs with
      | cons ra rs =>
        cases rs
        cases ra
        obtain ⟨as, rd⟩ := Dp.reads I p _ _ dp rfl
        have c2 : p.hasDict = false := by simpa using c2
        have c3 := of_decide_eq_true c3
        exact repr_of_reads' rd c1 (PyData.noDict_hsm c2) hg (by omega) (fun _ _ e => e) (fun h' u tk hk => ⟨.str p.shown, H, I.kept hk, ⟨u, rfl⟩, q _ _ _ hr Kps.refl (.str _)⟩) (le_sz c4)
    · exact False.elim q
end

/-! Mini 5: expressions, piece by piece. -/

def notStar : Expr → Bool
  | .Starred .. => false
  | _ => true
theorem star_cons {e : Expr} {es : List Expr} {env : Env} (h : notStar e = true) : starEach (e :: es) env = (false, eval e env) :: starEach es env := by
  cases e <;> first | exact Bool.noConfusion h | rfl
def noStars (es : List Expr) : Bool := es.all notStar
theorem stars_none {env : Env} {pos : Pos} : ∀ {es : List Expr}, noStars es = true → (backTo pos (starEach es env)).any (·.1) = false
  | [], _ => rfl
  | e :: es, h => by
    unfold noStars at h
    rw [List.all_cons, Bool.and_eq_true] at h
    rw [star_cons h.1]
    have := stars_none (env := env) (pos := pos) (es := es) h.2
    simpa [backTo] using this
theorem stars_all {env : Env} {pos : Pos} : ∀ {es : List Expr}, noStars es = true → (backTo pos (starEach es env)).all (fun x => !x.1) = true
  | [], _ => rfl
  | e :: es, h => by
    unfold noStars at h
    rw [List.all_cons, Bool.and_eq_true] at h
    rw [star_cons h.1]
    have := stars_all (env := env) (pos := pos) (es := es) h.2
    simpa [backTo] using this

section
variable {X : Cx} {pos : Pos}
/-! ### arguments -/
theorem pa_nilD : PA X [] (tA X.K fun _ h => .ok [] h) := PA.w pa_nil fun σV H Q ⟨σ, h, ρ, s, q⟩ => q [] H ρ s Kps.refl .nil
theorem pa_consD {e : Expr} {es : List Expr} {f : Sg → Hm → Res D} {g : Sg → Hm → Res (List D)} (ha : PE X e (tE X.K f)) (hr : PA X es (tA X.K g)) (ns : notStar e = true) :
    PA X (e :: es) (tA X.K fun σ h => (f σ h).bind fun x h1 => (g σ h1).bind fun xs h2 => .ok (x :: xs) h2) := by
  refine PA.w (pa_cons ha hr (star_cons ns)) fun σV H Q ⟨σ, h, ρ, s, q⟩ => ?_
  refine tE_of s q fun d h1 v H1 ρ1 s1 k1 r1 q => ?_
  refine tA_of s1 q fun ds h2 vs H2 ρ2 s2 k2 r2 q => ?_
  exact q _ _ _ s2 (k1.trans k2) (.cons (r1.mono k2) r2)

/-! ### names, constants -/
theorem pe_varD {i : Nat} {x : Str} (hN : X.N[i]? = some x) (hv : Vis X.env.scope x) (hd : (x == ("__debug__" : Str)) = false) (hcd : (x == ("__classdict__" : Str)) = false) : PE X (.Name x pos) (tE X.K fun σ h => match σ[i]? with
    | some (some d) => .ok d h
    | _ => .stuck) := by
  refine PE.w (pe_var hN hv hd hcd) fun σV H Q ⟨σ, h, ρ, s, q⟩ => ?_
  dsimp only at q
  split at q
  · rename_i d e
    obtain ⟨v, a, b⟩ := s.sl.get i d e
    exact ⟨v, a, q v H ρ s Kps.refl b⟩
  · exact False.elim q
theorem pe_constD {e : Expr} {v : V} {d : D} (p : PE X e (tC v)) (r : ∀ H ρ M, RD X.K H ρ M d v) : PE X e (tE X.K fun _ h => .ok d h) :=
  PE.w p fun σV H Q ⟨σ, h, ρ, s, q⟩ => q v H ρ s Kps.refl (r _ _ _)

/-! ### operations -/
theorem pe_opD {a b : Expr} {op : Operator} {fa fb : Sg → Hm → Res D} {g : D → D → Hm → Res D} (o : OpR X (binaryOp op) (DR2 X.K g)) (ha : PE X a (tE X.K fa)) (hb : PE X b (tE X.K fb)) :
    PE X (.BinOp a op b pos) (tE X.K fun σ h => (fa σ h).bind fun x h1 => (fb σ h1).bind fun y h2 => g x y h2) := by
  refine PE.w (pe_op o ha hb) fun σV H Q ⟨σ, h, ρ, s, q⟩ => ?_
  refine tE_of s q fun d h1 v H1 ρ1 s1 k1 r1 q => ?_
  refine tE_of s1 q fun d2 h2 v2 H2 ρ2 s2 k2 r2 q => ?_
  exact ⟨h2, ρ2, d, d2, s2.hp, r1.mono k2, r2, Res.wp_mono q fun r h3 q v3 H3 ρ3 hr3 k3 rr => q v3 H3 ρ3 (s2.of hr3 k3) ((k1.trans k2).trans k3) rr⟩
theorem pe_ixD {a b : Expr} {fa fb : Sg → Hm → Res D} (ha : PE X a (tE X.K fa)) (hb : PE X b (tE X.K fb)) (hs : PlainIx b) :
    PE X (.Subscript a b pos) (tE X.K fun σ h => (fa σ h).bind fun x h1 => (fb σ h1).bind fun y h2 => ixD x y h2) := by
  refine PE.w (pe_ix ixR_any ha hb hs) fun σV H Q ⟨σ, h, ρ, s, q⟩ => ?_
  refine tE_of s q fun d h1 v H1 ρ1 s1 k1 r1 q => ?_
  refine tE_of s1 q fun d2 h2 v2 H2 ρ2 s2 k2 r2 q => ?_
  exact ⟨h2, ρ2, d, d2, s2.hp, r1.mono k2, r2, Res.wp_mono q fun r h3 q v3 H3 ρ3 hr3 k3 rr => q v3 H3 ρ3 (s2.of hr3 k3) ((k1.trans k2).trans k3) rr⟩
theorem pe_negD {a : Expr} {fa : Sg → Hm → Res D} (ha : PE X a (tE X.K fa)) : PE X (.UnaryOp .USub a pos) (tE X.K fun σ h => (fa σ h).bind fun x h1 => match x with
    | .int i => .ok (.int (-i)) h1
    | _ => .stuck) := by
  refine PE.w (pe_un un_neg ha) fun σV H Q ⟨σ, h, ρ, s, q⟩ => ?_
  refine tE_of s q fun d h1 v H1 ρ1 s1 k1 r1 q => ?_
  cases d with
  | int i => exact ⟨i, rI_int r1, q _ _ _ s1 k1 (.int _)⟩
  | _ => exact False.elim q

/-! ### comparisons -/
theorem c_cmp {a b : Expr} {fa fb : Sg → Hm → Res D} {o : Cm} {Q : Bool → Hp → Prop} {σV : L2.St} {H : Hp}
    (q : tT X.K (fun σ h => (fa σ h).bind fun x h1 => (fb σ h1).bind fun y h2 => cmpD o x y h2) σV H Q) : tOp (DRc X.K (cmpD o)) (tE X.K fa) (tE X.K fb) σV H (fun x H' => ∃ k, x = .bl k ∧ Q k H') := by
  obtain ⟨σ, h, ρ, s, q⟩ := q
  refine tE_of s q fun d h1 v H1 ρ1 s1 k1 r1 q => ?_
  refine tE_of s1 q fun d2 h2 v2 H2 ρ2 s2 k2 r2 q => ?_
  exact ⟨h2, ρ2, d, d2, s2.hp, r1.mono k2, r2, Res.wp_mono q fun r h3 q H3 ρ3 hr3 k3 => ⟨r, rfl, q H3 ρ3 (s2.of hr3 k3) ((k1.trans k2).trans k3)⟩⟩
theorem pt_cmpD {a b : Expr} {fa fb : Sg → Hm → Res D} {o : Cm} {po : CmpOp} (hu : X.A.units + 64 < cLine) (e : cmB o po = true) (hm : behindInMarks po b = false) (ha : PE X a (tE X.K fa)) (hb : PE X b (tE X.K fb)) :
    PT X (.Compare a [po] [b] pos) (tT X.K fun σ h => (fa σ h).bind fun x h1 => (fb σ h1).bind fun y h2 => cmpD o x y h2) :=
  PT.w (pt_cmpR (cmR_of hu o po e) ha hb hm) fun σV H Q q => c_cmp (a := a) (b := b) q
theorem pe_cmpD {a b : Expr} {fa fb : Sg → Hm → Res D} {o : Cm} {po : CmpOp} (hu : X.A.units + 64 < cLine) (e : cmB o po = true) (hm : behindInMarks po b = false) (ha : PE X a (tE X.K fa)) (hb : PE X b (tE X.K fb)) :
    PE X (.Compare a [po] [b] pos) (tE X.K fun σ h => (fa σ h).bind fun x h1 => (fb σ h1).bind fun y h2 => (cmpD o x y h2).bind fun c h3 => .ok (.bl c) h3) := by
  refine PE.w (pe_cmpR (cmR_of hu o po e) ha hb hm) fun σV H Q ⟨σ, h, ρ, s, q⟩ => ?_
  refine tE_of s q fun d h1 v H1 ρ1 s1 k1 r1 q => ?_
  refine tE_of s1 q fun d2 h2 v2 H2 ρ2 s2 k2 r2 q => ?_
  exact ⟨h2, ρ2, d, d2, s2.hp, r1.mono k2, r2, Res.wp_mono (Res.wp_bind q) fun r h3 q H3 ρ3 hr3 k3 => q _ _ _ (s2.of hr3 k3) ((k1.trans k2).trans k3) (.bl _)⟩
theorem pt_chainD {a b c : Expr} {fa fb fc : Sg → Hm → Res D} {o1 o2 : Cm} {p1 p2 : CmpOp} (hu : X.A.units + 64 < cLine) (e1 : cmB o1 p1 = true) (e2 : cmB o2 p2 = true) (hm : behindInMarks p2 c = false) (ha : PE X a (tE X.K fa)) (hb : PE X b (tE X.K fb)) (hc : PE X c (tE X.K fc)) :
    PT X (.Compare a [p1, p2] [b, c] pos) (tT X.K fun σ h => (fa σ h).bind fun x h1 => (fb σ h1).bind fun y h2 => (cmpD o1 x y h2).bind fun t h3 =>
    match t with
    | true => (fc σ h3).bind fun z h4 => cmpD o2 y z h4
    | false => .ok false h3) := by
  refine PT.w (pt_chain (cmR_of hu o1 p1 e1) (cmR_of hu o2 p2 e2) ha hb hc hm) fun σV H Q ⟨σ, h, ρ, s, q⟩ => ?_
  refine tE_of s q fun d h1 v H1 ρ1 s1 k1 r1 q => ?_
  refine tE_of s1 q fun d2 h2 v2 H2 ρ2 s2 k2 r2 q => ?_
  refine ⟨h2, ρ2, d, d2, s2.hp, r1.mono k2, r2, Res.wp_mono (Res.wp_bind q) fun r h3 q H3 ρ3 hr3 k3 => ⟨r, rfl, ?_⟩⟩
  have s3 := s2.of hr3 k3
  cases r with
  | false => exact ⟨false, rfl, q _ _ s3 ((k1.trans k2).trans k3)⟩
  | true =>
    refine tE_of s3 q fun d4 h4 v4 H4 ρ4 s4 k4 r4 q => ?_
    exact ⟨h4, ρ4, d2, d4, s4.hp, r2.mono (k3.trans k4), r4, Res.wp_mono q fun u h5 q H5 ρ5 hr5 k5 => ⟨u, rfl, q _ _ (s4.of hr5 k5) ((((k1.trans k2).trans k3).trans k4).trans k5)⟩⟩
theorem pe_chainD {a b c : Expr} {fa fb fc : Sg → Hm → Res D} {o1 o2 : Cm} {p1 p2 : CmpOp} (hu : X.A.units + 64 < cLine) (e1 : cmB o1 p1 = true) (e2 : cmB o2 p2 = true) (hm : behindInMarks p2 c = false) (ha : PE X a (tE X.K fa)) (hb : PE X b (tE X.K fb)) (hc : PE X c (tE X.K fc)) :
    PE X (.Compare a [p1, p2] [b, c] pos) (tE X.K fun σ h => (fa σ h).bind fun x h1 => (fb σ h1).bind fun y h2 => (cmpD o1 x y h2).bind fun t h3 =>
    match t with
    | true => (fc σ h3).bind fun z h4 => (cmpD o2 y z h4).bind fun u h5 => .ok (.bl u) h5
    | false => .ok (.bl false) h3) := by
  refine PE.w (pe_chain (cmR_of hu o1 p1 e1) (cmR_of hu o2 p2 e2) ha hb hc hm) fun σV H Q ⟨σ, h, ρ, s, q⟩ => ?_
  refine tE_of s q fun d h1 v H1 ρ1 s1 k1 r1 q => ?_
  refine tE_of s1 q fun d2 h2 v2 H2 ρ2 s2 k2 r2 q => ?_
  refine ⟨h2, ρ2, d, d2, s2.hp, r1.mono k2, r2, Res.wp_mono (Res.wp_bind q) fun r h3 q H3 ρ3 hr3 k3 => ⟨r, rfl, ?_⟩⟩
  have s3 := s2.of hr3 k3
  cases r with
  | false => exact q _ _ _ s3 ((k1.trans k2).trans k3) (.bl _)
  | true =>
    refine tE_of s3 q fun d4 h4 v4 H4 ρ4 s4 k4 r4 q => ?_
    exact ⟨h4, ρ4, d2, d4, s4.hp, r2.mono (k3.trans k4), r4, Res.wp_mono (Res.wp_bind q) fun u h5 q H5 ρ5 hr5 k5 => q _ _ _ (s4.of hr5 k5) ((((k1.trans k2).trans k3).trans k4).trans k5) (.bl _)⟩
theorem isNon_rel {K : PySem.W.Frag} {H : Hp} {ρ : List Addr} {M : Addr → Prop} {d : D} {v : V} (r : RD K H ρ M d v) : decide (v = .non) = isNonD d := by
  cases r <;> rfl
theorem op_isNotN : OpR X (compareOp .IsNot) (fun x y H Q => y = .non ∧ Q (.bl (!decide (x = .non))) H) := by
  intro pins s σ H x y v u Q I rx ry h
  obtain ⟨rfl, q⟩ := h
  cases ry
  exact isnot_none_gen ⟨.bl _, H, I, by rw [rx.none_iff]; rfl, q⟩
theorem pt_isND {a : Expr} {j p2} {fa : Sg → Hm → Res D} (ha : PE X a (tE X.K fa)) : PT X (.Compare a [.Is] [.Constant .none j p2] pos) (tT X.K fun σ h => (fa σ h).bind fun x h1 => .ok (isNonD x) h1) := by
  refine PT.w (pt_cmpR op_isN ha pe_non (nomark _)) fun σV H Q ⟨σ, h, ρ, s, q⟩ => ?_
  refine tE_of s q fun d h1 v H1 ρ1 s1 k1 r1 q => ?_
  exact ⟨rfl, _, rfl, by rw [isNon_rel r1]; exact q _ _ s1 k1⟩
theorem pe_isND {a : Expr} {j p2} {fa : Sg → Hm → Res D} (ha : PE X a (tE X.K fa)) : PE X (.Compare a [.Is] [.Constant .none j p2] pos) (tE X.K fun σ h => (fa σ h).bind fun x h1 => .ok (.bl (isNonD x)) h1) := by
  refine PE.w (pe_cmpR op_isN ha pe_non (nomark _)) fun σV H Q ⟨σ, h, ρ, s, q⟩ => ?_
  refine tE_of s q fun d h1 v H1 ρ1 s1 k1 r1 q => ?_
  exact ⟨rfl, by rw [isNon_rel r1]; exact q _ _ _ s1 k1 (.bl _)⟩
theorem pt_notND {a : Expr} {j p2} {fa : Sg → Hm → Res D} (ha : PE X a (tE X.K fa)) : PT X (.Compare a [.IsNot] [.Constant .none j p2] pos) (tT X.K fun σ h => (fa σ h).bind fun x h1 => .ok (!isNonD x) h1) := by
  refine PT.w (pt_cmpR op_isNotN ha pe_non (nomark _)) fun σV H Q ⟨σ, h, ρ, s, q⟩ => ?_
  refine tE_of s q fun d h1 v H1 ρ1 s1 k1 r1 q => ?_
  exact ⟨rfl, _, rfl, by rw [isNon_rel r1]; exact q _ _ s1 k1⟩
theorem pe_notND {a : Expr} {j p2} {fa : Sg → Hm → Res D} (ha : PE X a (tE X.K fa)) : PE X (.Compare a [.IsNot] [.Constant .none j p2] pos) (tE X.K fun σ h => (fa σ h).bind fun x h1 => .ok (.bl (!isNonD x)) h1) := by
  refine PE.w (pe_cmpR op_isNotN ha pe_non (nomark _)) fun σV H Q ⟨σ, h, ρ, s, q⟩ => ?_
  refine tE_of s q fun d h1 v H1 ρ1 s1 k1 r1 q => ?_
  exact ⟨rfl, by rw [isNon_rel r1]; exact q _ _ _ s1 k1 (.bl _)⟩

theorem pt_isBD {a : Expr} {b : Bool} {j p2} {fa : Sg → Hm → Res D} (ha : PE X a (tE X.K fa)) : PT X (.Compare a [.Is] [.Constant (.bool b) j p2] pos) (tT X.K fun σ h => (fa σ h).bind fun x h1 => match x with
    | .bl c => .ok (false ^^ decide (c = b)) h1
    | _ => .stuck) := by
  refine PT.w (pt_cmpR op_isBl ha pe_bl (nomark _)) fun σV H Q ⟨σ, h, ρ, s, q⟩ => ?_
  refine tE_of s q fun d h1 v H1 ρ1 s1 k1 r1 q => ?_
  cases d with
  | bl c => exact ⟨c, b, rI_bl r1, rfl, _, rfl, by have z := q _ _ s1 k1; rw [Bool.false_xor] at z; exact z⟩
  | _ => exact False.elim q
theorem pe_isBD {a : Expr} {b : Bool} {j p2} {fa : Sg → Hm → Res D} (ha : PE X a (tE X.K fa)) : PE X (.Compare a [.Is] [.Constant (.bool b) j p2] pos) (tE X.K fun σ h => (fa σ h).bind fun x h1 => match x with
    | .bl c => .ok (.bl (false ^^ decide (c = b))) h1
    | _ => .stuck) := by
  refine PE.w (pe_cmpR op_isBl ha pe_bl (nomark _)) fun σV H Q ⟨σ, h, ρ, s, q⟩ => ?_
  refine tE_of s q fun d h1 v H1 ρ1 s1 k1 r1 q => ?_
  cases d with
  | bl c => exact ⟨c, b, rI_bl r1, rfl, q _ _ _ s1 k1 (by rw [Bool.false_xor]; exact .bl _)⟩
  | _ => exact False.elim q
theorem pt_notBD {a : Expr} {b : Bool} {j p2} {fa : Sg → Hm → Res D} (ha : PE X a (tE X.K fa)) : PT X (.Compare a [.IsNot] [.Constant (.bool b) j p2] pos) (tT X.K fun σ h => (fa σ h).bind fun x h1 => match x with
    | .bl c => .ok (true ^^ decide (c = b)) h1
    | _ => .stuck) := by
  refine PT.w (pt_cmpR op_notBl ha pe_bl (nomark _)) fun σV H Q ⟨σ, h, ρ, s, q⟩ => ?_
  refine tE_of s q fun d h1 v H1 ρ1 s1 k1 r1 q => ?_
  cases d with
  | bl c => exact ⟨c, b, rI_bl r1, rfl, _, by rw [Bool.true_xor], q _ _ s1 k1⟩
  | _ => exact False.elim q
theorem pe_notBD {a : Expr} {b : Bool} {j p2} {fa : Sg → Hm → Res D} (ha : PE X a (tE X.K fa)) : PE X (.Compare a [.IsNot] [.Constant (.bool b) j p2] pos) (tE X.K fun σ h => (fa σ h).bind fun x h1 => match x with
    | .bl c => .ok (.bl (true ^^ decide (c = b))) h1
    | _ => .stuck) := by
  refine PE.w (pe_cmpR op_notBl ha pe_bl (nomark _)) fun σV H Q ⟨σ, h, ρ, s, q⟩ => ?_
  refine tE_of s q fun d h1 v H1 ρ1 s1 k1 r1 q => ?_
  cases d with
  | bl c => exact ⟨c, b, rI_bl r1, rfl, q _ _ _ s1 k1 (by rw [Bool.true_xor]; exact .bl _)⟩
  | _ => exact False.elim q

/-! ### and, or, not -/
theorem pe_andD {a b : Expr} {rest : List Expr} {fa fb : Sg → Hm → Res D} (ha : PE X a (tE X.K fa)) (hb : PE X (.BoolOp .And (b :: rest) pos) (tE X.K fb)) : PE X (.BoolOp .And (a :: b :: rest) pos) (tE X.K fun σ h => (fa σ h).bind fun x h1 => match x with
    | .bl true => fb σ h1
    | .bl false => .ok (.bl false) h1
    | _ => .stuck) := by
  refine PE.w (pe_and ha hb) fun σV H Q ⟨σ, h, ρ, s, q⟩ => ?_
  refine tE_of s q fun d h1 v H1 ρ1 s1 k1 r1 q => ?_
  cases d with
  | bl c =>
    refine ⟨c, rI_bl r1, ?_⟩
    cases c with
    | true => exact iteT ⟨σ, h1, ρ1, s1, Res.wp_mono q fun r h2 q v H2 ρ2 s2 k2 r2 => q v H2 ρ2 s2 (k1.trans k2) r2⟩
    | false => exact iteF (q _ _ _ s1 k1 (.bl _))
  | _ => exact False.elim q
theorem pe_orD {a b : Expr} {rest : List Expr} {fa fb : Sg → Hm → Res D} (ha : PE X a (tE X.K fa)) (hb : PE X (.BoolOp .Or (b :: rest) pos) (tE X.K fb)) : PE X (.BoolOp .Or (a :: b :: rest) pos) (tE X.K fun σ h => (fa σ h).bind fun x h1 => match x with
    | .bl true => .ok (.bl true) h1
    | .bl false => fb σ h1
    | _ => .stuck) := by
  refine PE.w (pe_or ha hb) fun σV H Q ⟨σ, h, ρ, s, q⟩ => ?_
  refine tE_of s q fun d h1 v H1 ρ1 s1 k1 r1 q => ?_
  cases d with
  | bl c =>
    refine ⟨c, rI_bl r1, ?_⟩
    cases c with
    | false => exact iteF ⟨σ, h1, ρ1, s1, Res.wp_mono q fun r h2 q v H2 ρ2 s2 k2 r2 => q v H2 ρ2 s2 (k1.trans k2) r2⟩
    | true => exact iteT (q _ _ _ s1 k1 (.bl _))
  | _ => exact False.elim q
theorem pe_notD {a : Expr} {fa : Sg → Hm → Res D} (ha : PE X a (tE X.K fa)) : PE X (.UnaryOp .Not a pos) (tE X.K fun σ h => (fa σ h).bind fun x h1 => match x with
    | .bl c => .ok (.bl (!c)) h1
    | _ => .stuck) := by
  refine PE.w (pe_not ha) fun σV H Q ⟨σ, h, ρ, s, q⟩ => ?_
  refine tE_of s q fun d h1 v H1 ρ1 s1 k1 r1 q => ?_
  cases d with
  | bl c => exact ⟨c, rI_bl r1, q _ _ _ s1 k1 (.bl _)⟩
  | _ => exact False.elim q
theorem pw_andD {a b : Expr} {rest : List Expr} {fa fb : Sg → Hm → Res Bool} (ha : PT X a (tT X.K fa)) (hb : PW X (.BoolOp .And (b :: rest) pos) (tT X.K fb)) : PW X (.BoolOp .And (a :: b :: rest) pos) (tT X.K fun σ h => (fa σ h).bind fun t h1 => match t with
    | true => fb σ h1
    | false => .ok false h1) := by
  refine PW.w (pw_and ha hb) fun σV H Q ⟨σ, h, ρ, s, q⟩ => ?_
  refine tT_of s q fun c h1 H1 ρ1 s1 k1 q => ?_
  cases c with
  | true => exact iteT ⟨σ, h1, ρ1, s1, Res.wp_mono q fun r h2 q H2 ρ2 s2 k2 => q H2 ρ2 s2 (k1.trans k2)⟩
  | false => exact iteF (q _ _ s1 k1)
theorem pw_orD {a b : Expr} {rest : List Expr} {fa fb : Sg → Hm → Res Bool} (ha : PT X a (tT X.K fa)) (hb : PW X (.BoolOp .Or (b :: rest) pos) (tT X.K fb)) : PW X (.BoolOp .Or (a :: b :: rest) pos) (tT X.K fun σ h => (fa σ h).bind fun t h1 => match t with
    | true => .ok true h1
    | false => fb σ h1) := by
  refine PW.w (pw_or ha hb) fun σV H Q ⟨σ, h, ρ, s, q⟩ => ?_
  refine tT_of s q fun c h1 H1 ρ1 s1 k1 q => ?_
  cases c with
  | false => exact iteF ⟨σ, h1, ρ1, s1, Res.wp_mono q fun r h2 q H2 ρ2 s2 k2 => q H2 ρ2 s2 (k1.trans k2)⟩
  | true => exact iteT (q _ _ s1 k1)
theorem pt_notD {a : Expr} {fa : Sg → Hm → Res Bool} (ha : PT X a (tT X.K fa)) : PT X (.UnaryOp .Not a pos) (tT X.K fun σ h => (fa σ h).bind fun t h1 => .ok (!t) h1) := by
  refine PT.w (pt_not ha) fun σV H Q ⟨σ, h, ρ, s, q⟩ => ?_
  exact tT_of s q fun c h1 H1 ρ1 s1 k1 q => q _ _ s1 k1
theorem pe_ifD {c a b : Expr} {fc : Sg → Hm → Res Bool} {fa fb : Sg → Hm → Res D} (hc : PT X c (tT X.K fc)) (ha : PE X a (tE X.K fa)) (hb : PE X b (tE X.K fb)) : PE X (.IfExp c a b pos) (tE X.K fun σ h => (fc σ h).bind fun t h1 => match t with
    | true => fa σ h1
    | false => fb σ h1) := by
  refine PE.w (pe_ifExp hc ha hb) fun σV H Q ⟨σ, h, ρ, s, q⟩ => ?_
  refine tT_of s q fun c h1 H1 ρ1 s1 k1 q => ?_
  cases c with
  | true => exact iteT ⟨σ, h1, ρ1, s1, Res.wp_mono q fun r h2 q v H2 ρ2 s2 k2 r2 => q v H2 ρ2 s2 (k1.trans k2) r2⟩
  | false => exact iteF ⟨σ, h1, ρ1, s1, Res.wp_mono q fun r h2 q v H2 ρ2 s2 k2 r2 => q v H2 ρ2 s2 (k1.trans k2) r2⟩
/-- a value as a test -/
def plainT : Expr → Bool
  | .UnaryOp .Not _ _ => false
  | .BoolOp .. => false
  | .IfExp .. => false
  | .Compare .. => false
  | _ => true
theorem pt_valD {a : Expr} {fa : Sg → Hm → Res D} (ha : PE X a (tE X.K fa)) (hp : plainT a = true) : PT X a (tT X.K fun σ h => (fa σ h).bind trD) := by
  refine PT.w (pt_val ha fun whole => ?_) fun σV H Q ⟨σ, h, ρ, s, q⟩ => ?_
  · cases a <;> first | exact Bool.noConfusion hp | rfl | skip
    rename_i op _ _
    cases op <;> first | exact Bool.noConfusion hp | rfl
  · refine tE_of s q fun d h1 v H1 ρ1 s1 k1 r1 q => ?_
    cases d with
    | bl c => exact ⟨c, rI_bl r1, q _ _ s1 k1⟩
    | _ => exact False.elim q

/-! ### displays -/
theorem pe_tupD {es : List Expr} {x1} {f : Sg → Hm → Res (List D)} (p : PA X es (tA X.K f)) : PE X (.Tuple es x1 pos) (tE X.K fun σ h => (f σ h).bind fun ds h1 => .guard (decide (ds.length ≤ LIM)) (.ok (.tup ds) h1)) := by
  refine PE.w (pe_tupF p) fun σV H Q ⟨σ, h, ρ, s, q⟩ => ?_
  refine tA_of s q fun ds h1 vs H1 ρ1 s1 k1 r1 q => ?_
  obtain ⟨c, q⟩ := Res.wp_guard q
  exact ⟨by rw [← r1.length]; exact le_sz c, fun p o hp ho => q _ _ _ (s1.new hp) (k1.trans (Kp.new s1.hp hp)) (Rel.newT s1.hp hp ho r1)⟩
theorem pe_lstD {es : List Expr} {f : Sg → Hm → Res (List D)} (p : PA X es (tA X.K f)) : PE X (.List es pos) (tE X.K fun σ h => (f σ h).bind fun ds h1 => .guard (decide (ds.length ≤ LIM)) (.ok (.lst ds) h1)) := by
  refine PE.w (pe_lst p) fun σV H Q ⟨σ, h, ρ, s, q⟩ => ?_
  refine tA_of s q fun ds h1 vs H1 ρ1 s1 k1 r1 q => ?_
  obtain ⟨c, q⟩ := Res.wp_guard q
  exact ⟨by rw [← r1.length]; exact le_sz c, fun p hp => q _ _ _ (s1.new hp) (k1.trans (Kp.new s1.hp hp)) (Rel.newL s1.hp hp r1)⟩
theorem SR.push {K : PySem.W.Frag} {σ : Sg} {h : Hm} {ρ : List Addr} {σV : L2.St} {H : Hp} {p : Addr} {xs : List D} {vs : List V} (s : SR K σ h ρ σV H) (e : H p = none) (q : Rels K h ρ H xs vs) : SR K σ (h ++ [.lst xs]) (ρ ++ [p]) σV (upd H p (.lst vs)) :=
  s.of (s.hp.push e q) (Kp.push s.hp e)
theorem Rel.pushed {K : PySem.W.Frag} {h : Hm} {ρ : List Addr} {H : Hp} {p : Addr} {o : MO} {H' : Hp} (r : HR K h ρ H) : Rel K (h ++ [o]) (ρ ++ [p]) H' (.ref h.length) (.ref p) := .ref (by rw [← r.len]; simp)
theorem pe_lstMD {es : List Expr} {f : Sg → Hm → Res (List D)} (p : PA X es (tA X.K f)) : PE X (.List es pos) (tE X.K fun σ h => (f σ h).bind fun ds h1 => .guard (decide (ds.length ≤ LIM)) (.ok (.ref h1.length) (h1 ++ [.lst ds]))) := by
  refine PE.w (pe_lst p) fun σV H Q ⟨σ, h, ρ, s, q⟩ => ?_
  refine tA_of s q fun ds h1 vs H1 ρ1 s1 k1 r1 q => ?_
  obtain ⟨c, q⟩ := Res.wp_guard q
  exact ⟨by rw [← r1.length]; exact le_sz c, fun p hp => q _ _ _ (s1.push hp r1) (k1.trans (Kp.push s1.hp hp)) (Rel.pushed s1.hp)⟩

/-! ### built-ins -/
theorem pe_biD {b : Bi} {e : Expr} {es : List Expr} {x : Str} {p : Pos} {f : Sg → Hm → Res (List D)} (hc : X.calm = true) (hu : X.A.units + 64 < cLine) (hgd : b = .repr → X.A.guards = some []) (hx : x = biName b) (hg : Gl X x) (hm : X.mg x = none) (ha : PA X (e :: es) (tA X.K f)) (ns : noStars (e :: es) = true) :
    PE X (.Call (.Name x p) (e :: es) [] pos) (tE X.K fun σ h => (f σ h).bind fun ds h1 => biD b ds h1) := by
  have st : starEach (e :: es) X.env = (false, eval e X.env) :: starEach es X.env := star_cons (by
    unfold noStars at ns
    rw [List.all_cons, Bool.and_eq_true] at ns
    exact ns.1)
  have sn : (backTo pos (starEach es X.env)).any (·.1) = false := stars_none (by
    unfold noStars at ns ⊢
    rw [List.all_cons, Bool.and_eq_true] at ns
    exact ns.2)
  have go : PE X (.Call (.Name x p) (e :: es) [] pos) (tCB (DRs X.K (biD b)) (tA X.K f)) := by
    subst hx
    cases b
    · exact pe_callB (biR_len) hg hm (by decide +kernel) ha (by decide +kernel) (by decide +kernel) st sn
    · exact pe_callB (biR_abs) hg hm (by decide +kernel) ha (by decide +kernel) (by decide +kernel) st sn
    · exact pe_callTy (biR_int) hg hm (by decide +kernel) ha (by decide +kernel) (by decide +kernel) st sn
    · exact pe_callTy (biR_tuple) hg hm (by decide +kernel) ha (by decide +kernel) (by decide +kernel) st sn
    · exact pe_callTy (biR_list) hg hm (by decide +kernel) ha (by decide +kernel) (by decide +kernel) st sn
    · exact pe_callB (biR_all hc) hg hm (by decide +kernel) ha (by decide +kernel) (by decide +kernel) st sn
    · exact pe_callB (biR_any hc) hg hm (by decide +kernel) ha (by decide +kernel) (by decide +kernel) st sn
    · exact pe_callB (biR_sum hc) hg hm (by decide +kernel) ha (by decide +kernel) (by decide +kernel) st sn
    · exact pe_callB (biR_max2 hc) hg hm (by decide +kernel) ha (by decide +kernel) (by decide +kernel) st sn
    · exact pe_callB (biR_min2 hc) hg hm (by decide +kernel) ha (by decide +kernel) (by decide +kernel) st sn
    · exact pe_callTy (biR_str) hg hm (by decide +kernel) ha (by decide +kernel) (by decide +kernel) st sn
    · exact pe_callB (biR_sorted hu) hg hm (by decide +kernel) ha (by decide +kernel) (by decide +kernel) st sn
    · exact pe_callB (biR_repr (hgd rfl) hu) hg hm (by decide +kernel) ha (by decide +kernel) (by decide +kernel) st sn
  refine PE.w go fun σV H Q ⟨σ, h, ρ, s, q⟩ => ?_
  refine tA_of s q fun ds h1 vs H1 ρ1 s1 k1 r1 q => ?_
  exact ⟨h1, ρ1, ds, s1.hp, r1, Res.wp_mono q fun r h3 q v3 H3 ρ3 hr3 k3 rr => q v3 H3 ρ3 (s1.of hr3 k3) (k1.trans k3) rr⟩
end

/-! Mini 6: isinstance, methods, slices, calls of defs, what is walked, targets. -/

/-! ### isinstance -/
def tyNm : Ty → String
  | .int => "int" | .bool => "bool" | .str => "str" | .tuple => "tuple" | .list => "list"
def dTy : D → String
  | .non => "NoneType" | .bl _ => "bool" | .int _ => "int" | .str _ => "str" | .tup _ => "tuple" | .lst _ => "list" | .ref _ => "list" | .wtup _ => "tuple" | .dict _ _ => "dict" | .fn _ _ => "function"
theorem kit_d (t : Ty) (d : D) : kitB (dTy d) (tyNm t) = some (tyD t d) := by
  cases t <;> cases d <;> (simp only [dTy, tyNm, tyD]; decide +kernel)
section
variable {K : PySem.W.Frag} {h : Hm} {ρ : List Addr} {H : Hp}
theorem LieL.ty {M : Addr → Prop} {a : Addr} {vs : List V} (l : LieL K H M a vs) : TyX K H (.ref a) (.type "list") := by
  rcases l with ⟨l | ⟨o, l⟩, _⟩ | ⟨o, its, n, h1, h2, _⟩
  · exact .base (.lst l)
  · exact .base (.frz l)
  · exact .kList h1 h2
theorem LieT.ty {M : Addr → Prop} {a : Addr} {vs : List V} (l : LieT K H M a vs) : TyX K H (.ref a) (.type "tuple") := by
  rcases l with ⟨o, l, _⟩ | ⟨o, its, n, h1, h2, _⟩
  · exact .fTuple l
  · exact .kTuple h1 h2
theorem LieW.ty {M : Addr → Prop} {a : Addr} {vs : List V} (l : LieW K H M a vs) : TyX K H (.ref a) (.type "tuple") := by
  rcases l with ⟨l | ⟨o, l⟩, _⟩
  · exact .base (.tup l)
  · exact .fTuple l
/-- the type of a value; of a shared thing only while it is open -/
theorem Rel.ty {d : D} {v : V} (hr : HR K h ρ H) (r : Rel K h ρ H d v) (ok : openD h d = true) : TyX K H v (.type (dTy d)) := by
  cases r with
  | non => exact .base .non
  | bl b => exact .base (.bl b)
  | int b => exact .base (.int b)
  | str b => exact .base (.str b)
  | tup l _ => exact l.ty
  | lst l _ => exact l.ty
  | wtup l _ => exact l.ty
  | @ref n a e =>
    have k : (listOf? h n).isSome = true := ok
    cases q : listOf? h n with
    | none => rw [q] at k; cases k
    | some xs =>
      obtain ⟨vs, h1, _⟩ := hr.ref e q
      exact .base (.lst h1)
  | dict _ _ => exact Bool.noConfusion ok
  | fn _ => exact Bool.noConfusion ok
end
theorem openD_ok {h : Hm} {d : D} (e : openD h d = true) : openD h d = true := e
section
variable {X : Cx} {pos : Pos}
theorem ty_boot (t : Ty) : bootBuiltins (tyNm t) = some (.type (tyNm t)) := by cases t <;> decide +kernel
theorem ty_ok (t : Ty) : (tyNm t : Str) ≠ "__name__" ∧ ((tyNm t : Str) == ("__debug__" : Str)) = false := by cases t <;> exact ⟨by decide +kernel, by decide +kernel⟩
theorem pe_ty {t : Ty} {x : Str} (hx : x = tyNm t) (hg : Gl X x) (hm : X.mg x = none) : PE X (.Name x pos) (tC (.ty (tyNm t))) := by
  subst hx
  exact pe_bltn hg hm (ty_boot t) rfl (ty_ok t).1 (ty_ok t).2
theorem pe_isiD {a : Expr} {t : Ty} {x : Str} {p p2 : Pos} {f : Sg → Hm → Res D} (hx : x = tyNm t) (hg : Gl X "isinstance") (hm : X.mg "isinstance" = none) (hgT : Gl X x) (hmT : X.mg x = none) (ha : PE X a (tE X.K f)) (ns : notStar a = true) :
    PE X (.Call (.Name "isinstance" p) [a, .Name x p2] [] pos) (tE X.K fun σ h => (f σ h).bind fun x h1 => .guard (openD h1 x) (.ok (.bl (tyD t x)) h1)) := by
  have pa : PA X [a, .Name x p2] (tCons (tE X.K f) (tCons (tC (.ty (tyNm t))) tNil)) := pa_cons ha (pa_cons (pe_ty hx hgT hmT) pa_nil (by rfl)) (star_cons ns)
  refine PE.w (pe_callB call_isi hg hm (by decide +kernel) pa (by decide +kernel) (by decide +kernel) (star_cons ns) (by rfl)) fun σV H Q ⟨σ, h, ρ, s, q⟩ => ?_
  refine tE_of s q fun d h1 v H1 ρ1 s1 k1 r1 q => ?_
  obtain ⟨c, q⟩ := Res.wp_guard q
  exact ⟨v, .ty (tyNm t), .type (dTy d), .type (tyNm t), tyD t d, rfl, .ty _, r1.ty s1.hp (openD_ok c), kit_ty (kit_d t d), q _ _ _ s1 k1 (.bl _)⟩
/-- the names of a tuple of classes -/
theorem pa_tys : ∀ {ts : List Ty} {es : List Expr}, Paired (fun (t : Ty) (e : Expr) => ∃ p, e = .Name (tyNm t) p ∧ Gl X (tyNm t) ∧ X.mg (tyNm t) = none) ts es → PA X es fun _ H Q => Q (ts.map fun t => V.ty (tyNm t)) H
  | _, _, .nil => pa_nil
  | t :: ts, _, .cons ⟨p, e, hg, hm⟩ r => by
    subst e
    exact pa_cons (pe_ty rfl hg hm) (pa_tys r) (by rfl)
theorem cls_tys : ∀ ts : List Ty, Paired ClsV (ts.map fun t => V.ty (tyNm t)) (ts.map fun t => Value.type (tyNm t))
  | [] => .nil
  | t :: ts => .cons (.ty _) (cls_tys ts)
theorem kit_any {K : PySem.W.Frag} (d : D) : ∀ ts : List Ty, PySem.W.kitAny K (.type (dTy d)) (ts.map fun t => Value.type (tyNm t)) = some (ts.any fun t => tyD t d)
  | [] => rfl
  | t :: ts => by
    refine kitAny_cons (kit_ty (kit_d t d)) (fun e => ?_) (fun e => ?_)
    · rw [kit_any d ts, List.any_cons, e, Bool.false_or]
    · rw [List.any_cons, e, Bool.true_or]
theorem pe_isiTD {a : Expr} {ts : List Ty} {es : List Expr} {k : Nat} {p p2 : Pos} {f : Sg → Hm → Res D} (hes : Paired (fun (t : Ty) (e : Expr) => ∃ p, e = .Name (tyNm t) p ∧ Gl X (tyNm t) ∧ X.mg (tyNm t) = none) ts es) (hz : ts.length ≤ sizeLine)
    (hg : Gl X "isinstance") (hm : X.mg "isinstance" = none) (ha : PE X a (tE X.K f)) (ns : notStar a = true) :
    PE X (.Call (.Name "isinstance" p) [a, .Tuple es k p2] [] pos) (tE X.K fun σ h => (f σ h).bind fun x h1 => .guard (openD h1 x) (.ok (.bl (ts.any fun t => tyD t x)) h1)) := by
  have pa : PA X [a, .Tuple es k p2] (tCons (tE X.K f) (tCons (tTup fun _ H Q => Q (ts.map fun t => V.ty (tyNm t)) H) tNil)) := pa_cons ha (pa_cons (pe_tup (pa_tys hes)) pa_nil (by rfl)) (star_cons ns)
  refine PE.w (pe_callB call_isiT hg hm (by decide +kernel) pa (by decide +kernel) (by decide +kernel) (star_cons ns) (by rfl)) fun σV H Q ⟨σ, h, ρ, s, q⟩ => ?_
  refine tE_of s q fun d h1 v H1 ρ1 s1 k1 r1 q => ?_
  obtain ⟨c, q⟩ := Res.wp_guard q
  refine ⟨by rw [List.length_map]; exact hz, fun p hp => ?_⟩
  have k2 : Kp h1 ρ1 H1 h1 ρ1 (upd H1 p (.tup (ts.map fun t => V.ty (tyNm t)))) := Kp.new s1.hp hp
  have s2 := s1.new (o := .tup (ts.map fun t => V.ty (tyNm t))) hp
  exact ⟨v, p, _, .type (dTy d), _, _, rfl, upd_same, cls_tys ts, Rel.ty s2.hp (r1.mono k2) (openD_ok c), kit_any d ts, q _ _ _ s2 (k1.trans k2) (.bl _)⟩

/-! ### methods -/
theorem mt_appendD : MtR X "list.append" (fun x xs H Q => ∃ h ρ d ds, HR X.K h ρ H ∧ Rel X.K h ρ H d x ∧ Rels X.K h ρ H ds xs ∧ (mtD .append d ds h).wp fun r h' => ∀ v H' ρ', HR X.K h' ρ' H' → Kp h ρ H h' ρ' H' → Rel X.K h' ρ' H' r v → Q v H') := by
  intro pins s σ H x xs v us Q I rx rxs hq
  obtain ⟨h, ρ, d, ds, hr, rd, rs, q⟩ := hq
  match d, ds, rd, rs, q with
  | .ref n, [y], rd, rs, q =>
    have q : (match listOf? h n with
      | some xs => Res.guard (decide (xs.length < LIM)) (Res.ok D.non (h.set n (.lst (xs ++ [y]))))
      | none => Res.stuck).wp _ := q
    cases e : listOf? h n with
    | none => rw [e] at q; exact False.elim q
    | some ys =>
      rw [e] at q
      obtain ⟨c, q⟩ := Res.wp_guard q
      obtain ⟨w, rfl, rw'⟩ := rels1 rs
      cases rd with
      | @ref _ a ea =>
        obtain ⟨vs, h1, h2⟩ := hr.ref ea e
        have eh : h[n]? = some (.lst ys) := by
          unfold listOf? at e
          split at e
          · rename_i z q2
            cases e
            exact q2
          · cases e
        refine mt_append pins s σ H _ _ v us Q I rx rxs ⟨a, vs, w, rfl, rfl, h1, by rw [← h2.length]; exact lt_sz c, ?_⟩
        exact q _ _ _ (hr.write ea eh (h2.append (.cons rw' .nil))) (Kp.write ea eh) .non
  | .non, _, _, _, q => exact False.elim q
  | .bl _, _, _, _, q => exact False.elim q
  | .int _, _, _, _, q => exact False.elim q
  | .str _, _, _, _, q => exact False.elim q
  | .tup _, _, _, _, q => exact False.elim q
  | .lst _, _, _, _, q => exact False.elim q
  | .wtup _, _, _, _, q => exact False.elim q
  | .dict _ _, _, _, _, q => exact False.elim q
  | .fn _ _, _, _, _, q => exact False.elim q
  | .ref _, [], _, _, q => exact False.elim q
  | .ref _, _ :: _ :: _, _, _, q => exact False.elim q
theorem listOf_eq {h : Hm} {n : Nat} {xs : List D} (e : listOf? h n = some xs) : h[n]? = some (.lst xs) := by
  unfold listOf? at e
  split at e
  · rename_i z q2
    cases e
    exact q2
  · cases e
theorem RDs.erase {K : PySem.W.Frag} {h : Hm} {ρ : List Addr} {H : Hp} : ∀ {ds : List D} {vs : List V} (k : Nat), Rels K h ρ H ds vs → Rels K h ρ H (ds.eraseIdx k) (vs.eraseIdx k)
  | [], _, k, r => by cases r; exact .nil
  | d :: ds, _, 0, r => by cases r with | cons a b => exact b
  | d :: ds, _, k + 1, r => by cases r with | cons a b => exact .cons a (RDs.erase k b)
theorem mt_popD : MtR X "list.pop" (fun x xs H Q => ∃ h ρ d ds, HR X.K h ρ H ∧ Rel X.K h ρ H d x ∧ Rels X.K h ρ H ds xs ∧ (mtD .popAt d ds h).wp fun r h' => ∀ v H' ρ', HR X.K h' ρ' H' → Kp h ρ H h' ρ' H' → Rel X.K h' ρ' H' r v → Q v H') := by
  intro pins s σ H x xs v us Q I rx rxs hq
  obtain ⟨h, ρ, d, ds, hr, rd, rs, q⟩ := hq
  match d, ds, rd, rs, q with
  | .ref n, [.int i], rd, rs, q =>
    have q : (match listOf? h n with
      | some xs => match (if 0 ≤ i ∧ i < xs.length then xs[i.toNat]? else none) with
        | some y => Res.ok y (h.set n (.lst (xs.eraseIdx i.toNat)))
        | none => Res.stuck
      | none => Res.stuck).wp _ := q
    cases e : listOf? h n with
    | none => rw [e] at q; exact False.elim q
    | some ys =>
      rw [e] at q
      dsimp only at q
      by_cases hi : 0 ≤ i ∧ i < ys.length
      · rw [if_pos hi] at q
        cases e2 : ys[i.toNat]? with
        | none => rw [e2] at q; exact False.elim q
        | some y =>
          rw [e2] at q
          obtain ⟨w, rfl, rw'⟩ := rels1 rs
          have ew := rI_int rw'
          subst ew
          cases rd with
          | @ref _ a ea =>
            obtain ⟨vs, h1, h2⟩ := hr.ref ea e
            have eh := listOf_eq e
            obtain ⟨z, hz, rz⟩ := h2.get e2
            have hl := (I.lstM h1).1
            have hlen := h2.length
            rw [sz] at hl
            refine mt_popAt pins s σ H _ _ v us Q I rx rxs ⟨a, vs, i, i.toNat, z, rfl, rfl, h1, by omega, by omega, ?_, hz, ?_⟩
            · unfold seqIndex?
              have n1 : ¬ i < 0 := by omega
              have n2 : (decide (0 ≤ i) && decide (i < (vs.length : Int))) = true := by simp; omega
              simp only [if_neg n1, n2, if_true]
            · exact q _ _ _ (hr.write ea eh (RDs.erase _ h2)) (Kp.write ea eh) (rz.mono (Kp.write ea eh))
      · rw [if_neg hi] at q
        exact False.elim q
  | .non, _, _, _, q => exact False.elim q
  | .bl _, _, _, _, q => exact False.elim q
  | .int _, _, _, _, q => exact False.elim q
  | .str _, _, _, _, q => exact False.elim q
  | .tup _, _, _, _, q => exact False.elim q
  | .lst _, _, _, _, q => exact False.elim q
  | .wtup _, _, _, _, q => exact False.elim q
  | .dict _ _, _, _, _, q => exact False.elim q
  | .fn _ _, _, _, _, q => exact False.elim q
  | .ref _, [], _, _, q => exact False.elim q
  | .ref _, [.non], _, _, q => exact False.elim q
  | .ref _, [.bl _], _, _, q => exact False.elim q
  | .ref _, [.str _], _, _, q => exact False.elim q
  | .ref _, [.tup _], _, _, q => exact False.elim q
  | .ref _, [.lst _], _, _, q => exact False.elim q
  | .ref _, [.ref _], _, _, q => exact False.elim q
  | .ref _, [.wtup _], _, _, q => exact False.elim q
  | .ref _, [.dict _ _], _, _, q => exact False.elim q
  | .ref _, [.fn _ _], _, _, q => exact False.elim q
  | .ref _, a :: _ :: _, _, _, q => cases a <;> exact False.elim q
end

/-! Mini 7: methods in place, slices, calls of defs, what is walked, targets. -/
def notCall : Expr → Bool
  | .Call .. => false
  | _ => true
theorem base_plain' {o : Expr} {name : Str} {env : Env} (h : notCall o = true) : attributeBase o name env (eval o env) = eval o env := by
  cases o <;> first | exact Bool.noConfusion h | rfl
section
variable {X : Cx} {pos : Pos}
/-- the receiver: a list, or a tuple that is known to the object -/
def rcv (K : PySem.W.Frag) (T : String) (x : V) (H : Hp) : Prop := ∃ p, x = .ref p ∧ ((T = "list" ∧ ∃ xs, SqL K H p xs) ∨ (T = "tuple" ∧ ∃ M xs, LieT K H M p xs))
theorem rcv_is {pins : List (Addr × Obj)} {σ : L2.St} {H : Hp} {s : Shared} {T : String} {x : V} {v : Value} (I : Inv X pins σ H s) (r : RelV x v) (ty : rcv X.K T x H) :
    s.TypeIs v T ∧ ∀ a, v = .ref a → ∃ ob, s.heap.get? a = some ob ∧ ob.dict = none := by
  obtain ⟨p, rfl, ty⟩ := ty
  cases r
  rcases ty with ⟨rfl, xs, hq⟩ | ⟨rfl, M, xs, hq⟩
  · obtain ⟨its, _, pl, _⟩ := I.list hq
    refine ⟨pl.isList.typeIs, fun a e => ?_⟩
    cases e
    obtain ⟨o, n, e, c, hd, _⟩ := pl
    exact ⟨o, e, hd⟩
  · rcases hq with ⟨o, hq, hd, _⟩ | ⟨o, its, n, hk, hc, hd, _⟩
    · obtain ⟨e, _, its, _, o', e2, hc, _⟩ := I.hok p _ hq
      rw [e] at e2
      cases e2
      refine ⟨⟨o, e, hc⟩, fun a e3 => ?_⟩
      cases e3
      exact ⟨o, e, hd⟩
    · refine ⟨⟨o, I.kIn p o hk, hc⟩, fun a e => ?_⟩
      cases e
      exact ⟨o, I.kIn _ o hk, hd⟩
/-- a built-in's method, with arguments -/
theorem pe_mtG {T id : String} {name : Str} {o e : Expr} {es : List Expr} {apos cpos : Pos} {m : Mt} {fo : Sg → Hm → Res D} {fs : Sg → Hm → Res (List D)}
    (pa : PlainAttrs T) (slot : Slot T name id) (hty : typeOf (.builtin id) = pure (.type "method_descriptor"))
    (hm : MtR X id (fun x xs H Q => ∃ h ρ d ds, HR X.K h ρ H ∧ Rel X.K h ρ H d x ∧ Rels X.K h ρ H ds xs ∧ (mtD m d ds h).wp fun r h' => ∀ v H' ρ', HR X.K h' ρ' H' → Kp h ρ H h' ρ' H' → Rel X.K h' ρ' H' r v → Q v H'))
    (hrc : ∀ (h : Hm) (ρ : List Addr) (H : Hp) (d : D) (v : V), HR X.K h ρ H → Rel X.K h ρ H d v → rcvD m d h = true → rcv X.K T v H)
    (ho : PE X o (tE X.K fo)) (ha : PA X (e :: es) (tA X.K fs)) (ns : noStars (e :: es) = true) (hfew : (e :: es).length < 30)
    (hbase : notCall o = true) (hline : (apos.endLine == cpos.line) = true) :
    PE X (.Call (.Attribute o name apos) (e :: es) [] cpos) (tE X.K fun σ h => (fo σ h).bind fun x h1 => .guard (rcvD m x h1) ((fs σ h1).bind fun ds h2 => mtD m x ds h2)) := by
  have st : starEach (e :: es) X.env = (false, eval e X.env) :: starEach es X.env := star_cons (by
    unfold noStars at ns
    rw [List.all_cons, Bool.and_eq_true] at ns
    exact ns.1)
  have sn : (backTo cpos (starEach es X.env)).any (·.1) = false := stars_none (by
    unfold noStars at ns ⊢
    rw [List.all_cons, Bool.and_eq_true] at ns
    exact ns.2)
  refine ⟨fun pins s σ H Q I h => ?_⟩
  have hf : ((backTo cpos (starEach (e :: es) X.env)).all (fun x => !x.1) && (backToKw cpos (keywordEach [] X.env)).all (fun x => x.1.isSome)
      && decide ((e :: es).length + ([] : List Keyword).length + (if ([] : List Keyword).isEmpty then 0 else 1) < 30)) = true := by
    rw [stars_all ns]
    simp [backToKw, keywordEach] at hfew ⊢
    exact hfew
  refine wpAny_Call_method_late (base_plain' hbase) hf hline rfl ?_
  obtain ⟨σD, hD, ρ, sr, q⟩ := h
  have q0 : tE X.K fo σ H (fun x H1 => rcv X.K T x H1 ∧ tA X.K fs σ H1 fun xs H2 => ∃ h ρ d ds, HR X.K h ρ H2 ∧ Rel X.K h ρ H2 d x ∧ Rels X.K h ρ H2 ds xs ∧ (mtD m d ds h).wp fun r h' => ∀ v H' ρ', HR X.K h' ρ' H' → Kp h ρ H2 h' ρ' H' → Rel X.K h' ρ' H' r v → Q v H') := by
    refine tE_of sr q fun d h1 v H1 ρ1 s1 k1 r1 q => ?_
    obtain ⟨c, q⟩ := Res.wp_guard q
    refine ⟨hrc _ _ _ _ _ s1.hp r1 c, ?_⟩
    refine tA_of s1 q fun ds h2 vs H2 ρ2 s2 k2 r2 q => ?_
    exact ⟨h2, ρ2, d, ds, s2.hp, r1.mono k2, r2, Res.wp_mono q fun r h3 q v3 H3 ρ3 hr3 k3 rr => q v3 H3 ρ3 (s2.of hr3 k3) ((k1.trans k2).trans k3) rr⟩
  refine thn (ho.run pins s σ H _ I q0) fun v s1 ⟨x, H1, I1, r1, ty, q1⟩ => ?_
  obtain ⟨h1, h2⟩ := rcv_is I1 r1 ty
  refine ⟨T, id, pa, slot, hty, h1, h2, ?_⟩
  have hA := ha.run cpos pins s1 σ H1 _ I1 q1
  rw [st] at hA ⊢
  refine Calls.callWith_builtin (by show (false || (backTo cpos (starEach es X.env)).any (·.1)) = false; rw [sn] <;> rfl) (Calls.evalArgs_plain ?_)
  exact thn hA fun us s2 ⟨vs, H2, I2, r2, q2⟩ => hm pins s2 σ H2 x vs v us Q I2 r1 r2 q2
theorem rcv_list {h : Hm} {ρ : List Addr} {H : Hp} {n : Nat} {v : V} (hr : HR X.K h ρ H) (r : Rel X.K h ρ H (.ref n) v) (e : (listOf? h n).isSome = true) : rcv X.K "list" v H := by
  cases k : listOf? h n with
  | none => rw [k] at e; cases e
  | some xs =>
    cases r with
    | @ref _ a ea =>
      obtain ⟨vs, h1, _⟩ := hr.ref ea k
      exact ⟨a, rfl, .inl ⟨rfl, vs, SqL.of h1⟩⟩
theorem mt_indexD : MtR X "tuple.index" (fun x xs H Q => ∃ h ρ d ds, HR X.K h ρ H ∧ Rel X.K h ρ H d x ∧ Rels X.K h ρ H ds xs ∧ (mtD .index d ds h).wp fun r h' => ∀ v H' ρ', HR X.K h' ρ' H' → Kp h ρ H h' ρ' H' → Rel X.K h' ρ' H' r v → Q v H') := by
  intro pins s σ H x xs v us Q I rx rxs hq
  obtain ⟨h, ρ, d, ds, hr, rd, rs, q⟩ := hq
  match d, ds, rd, rs, q with
  | .tup ys, [.str z], rd, rs, q =>
    have q : (match (strsOf ys).bind (idxOf z) with
      | some j => Res.ok (D.int j) h
      | none => Res.stuck).wp _ := q
    cases e : (strsOf ys).bind (idxOf z) with
    | none => rw [e] at q; exact False.elim q
    | some j =>
      rw [e] at q
      cases e2 : strsOf ys with
      | none => rw [e2] at e; cases e
      | some zs =>
        rw [e2] at e
        have e : idxOf z zs = some j := e
        obtain ⟨w, rfl, rw'⟩ := rels1 rs
        cases rd with
        | @tup a _ vs l rr =>
          have hz := strs_rel e2 rr
          subst hz
          have key : ∀ (zs : List Str) (j : Nat), idxOf z zs = some j → zs[j]? = some z ∧ ∀ m, m < j → zs[m]? ≠ some z := by
            intro zs
            induction zs with
            | nil => intro j e; cases e
            | cons y ys ih =>
              intro j e
              unfold idxOf at e
              by_cases hy : y = z
              · rw [if_pos hy] at e
                cases e
                exact ⟨by simp [hy], fun m hm => absurd hm (Nat.not_lt_zero _)⟩
              · rw [if_neg hy] at e
                cases k : idxOf z ys with
                | none => rw [k] at e; cases e
                | some i =>
                  rw [k] at e
                  cases e
                  obtain ⟨a, b⟩ := ih i k
                  refine ⟨by simpa using a, fun m hm => ?_⟩
                  cases m with
                  | zero => simpa using hy
                  | succ m => simpa using b m (Nat.lt_of_succ_lt_succ hm)
          obtain ⟨k1, k2⟩ := key zs j e
          exact mt_tup_index pins s σ H _ _ v us Q I rx rxs ⟨a, zs, z, j, rfl, by rw [rI_str rw'], l.sq, k1, k2, q _ _ _ hr Kps.refl (.int _)⟩
def mtId : Mt → String
  | .append => "list.append" | .popAt => "list.pop" | .index => "tuple.index"
def mtNm : Mt → Str
  | .append => "append" | .popAt => "pop" | .index => "index"
theorem pe_mtD {m : Mt} {name : Str} {o e : Expr} {es : List Expr} {apos cpos : Pos} {fo : Sg → Hm → Res D} {fs : Sg → Hm → Res (List D)} (hn : name = mtNm m)
    (ho : PE X o (tE X.K fo)) (ha : PA X (e :: es) (tA X.K fs)) (ns : noStars (e :: es) = true) (hfew : (e :: es).length < 30)
    (hbase : notCall o = true) (hline : (apos.endLine == cpos.line) = true) :
    PE X (.Call (.Attribute o name apos) (e :: es) [] cpos) (tE X.K fun σ h => (fo σ h).bind fun x h1 => .guard (rcvD m x h1) ((fs σ h1).bind fun ds h2 => mtD m x ds h2)) := by
  subst hn
  cases m with
  | append =>
    refine pe_mtG PySem.F.plainAttrs_list PySem.F.slot_list_append PySem.F.type_list_append mt_appendD (fun h ρ H d v hr r c => ?_) ho ha ns hfew hbase hline
    cases d <;> first | exact Bool.noConfusion c | exact rcv_list hr r c
  | popAt =>
    refine pe_mtG PySem.F.plainAttrs_list PySem.F.slot_list_pop PySem.F.type_list_pop mt_popD (fun h ρ H d v hr r c => ?_) ho ha ns hfew hbase hline
    cases d <;> first | exact Bool.noConfusion c | exact rcv_list hr r c
  | index =>
    refine pe_mtG PySem.F.plainAttrs_tuple PySem.F.slot_tuple_index PySem.F.type_tuple_index mt_indexD (fun h ρ H d v hr r c => ?_) ho ha ns hfew hbase hline
    cases r with
    | tup l _ => exact ⟨_, rfl, .inr ⟨rfl, _, _, l⟩⟩
    | _ => exact Bool.noConfusion c
end

/-! Mini 8: slices, calls of defs, what is walked, targets. -/
section
variable {X : Cx} {pos : Pos}
/-! ### slices -/
theorem slW {r r' : V → Option Int → Option Int → Hp → VK → Prop} (p : L2.SlR X r) (w : ∀ x lo hi H Q, r' x lo hi H Q → r x lo hi H Q) : L2.SlR X r' := fun pins s σ H x v vl vu lo hi sl Q I rx hs pl pu q => p pins s σ H x v vl vu lo hi sl Q I rx hs pl pu (w _ _ _ _ _ q)
theorem cutL_whole {α : Type} {xs : List α} {lo hi : Option Int} (h : HT.sIx xs.length 0 lo = 0 ∧ HT.sIx xs.length xs.length hi = xs.length) : cutL xs lo hi = xs := by
  unfold cutL
  rw [h.1, h.2, Nat.sub_zero, List.drop_zero, List.take_length]
theorem slR_any : L2.SlR X (fun x lo hi H Q => ∃ h ρ d, HR X.K h ρ H ∧ Rel X.K h ρ H d x ∧ (cutD d lo hi h).wp fun r h' => ∀ v H' ρ', HR X.K h' ρ' H' → Kp h ρ H h' ρ' H' → Rel X.K h' ρ' H' r v → Q v H') := slW (L2.SlR.or sl_list (L2.SlR.or sl_tupF sl_str)) fun x lo hi H Q hq => by
  obtain ⟨h, ρ, d, hr, rd, q⟩ := hq
  have lst : ∀ xs, lstOf h d = some xs → (Res.ok (D.lst (cutL xs lo hi)) h).wp (fun r h' => ∀ v H' ρ', HR X.K h' ρ' H' → Kp h ρ H h' ρ' H' → Rel X.K h' ρ' H' r v → Q v H') → L2.rSlL X.K x lo hi H Q := fun xs k q => by
    obtain ⟨a, vs, rfl, hs, rr⟩ := rd.lstv hr k
    refine ⟨a, vs, rfl, hs, fun p hp => q _ _ _ (hr.new hp) (Kp.new hr hp) (Rel.newL hr hp ?_)⟩
    unfold cutL cutV
    rw [rr.length]
    exact (rr.drop _).take _
  cases d with
  | lst ys => exact .inl (lst ys rfl q)
  | ref n =>
    have q : (match listOf? h n with
      | some xs => Res.ok (D.lst (cutL xs lo hi)) h
      | none => Res.stuck).wp _ := q
    cases k : listOf? h n with
    | none => rw [k] at q; exact False.elim q
    | some ys =>
      rw [k] at q
      exact .inl (lst ys k q)
  | tup ys =>
    refine .inr (.inl ?_)
    have r0 := rd
    cases rd with
    | @tup a _ vs l rr =>
      have hl := rr.length
      refine ⟨a, vs, rfl, l.sq, fun z => ?_, fun _ p o hp ho => q _ _ _ (hr.new hp) (Kp.new hr hp) (Rel.newT hr hp ho ?_)⟩
      · rw [← hl] at z
        have q : (Res.ok (D.tup (cutL ys lo hi)) h).wp _ := q
        rw [cutL_whole z] at q
        exact q _ _ _ hr Kps.refl r0
      · unfold cutL cutV
        rw [hl]
        exact (rr.drop _).take _
  | str z =>
    obtain ⟨c, q⟩ := Res.wp_guard q
    exact .inr (.inr ⟨z, rI_str rd, le_sz c, q _ _ _ hr Kps.refl (.str _)⟩)
  | _ => exact False.elim q
theorem pe_sliceD {e : Expr} {lo hi : Option Expr} {p2 : Pos} {fe : Sg → Hm → Res D} {fl fh : Sg → Hm → Res (Option Int)} (he : PE X e (tE X.K fe)) (hl : PO X lo (tP X.K fl)) (hh : PO X hi (tP X.K fh)) :
    PE X (.Subscript e (.Slice lo hi none p2) pos) (tE X.K fun σ h => (fe σ h).bind fun x h1 => (fl σ h1).bind fun l h2 => (fh σ h2).bind fun u h3 => cutD x l u h3) := by
  refine PE.w (pe_slice slR_any he hl hh) fun σV H Q ⟨σ, h, ρ, s, q⟩ => ?_
  refine tE_of s q fun d h1 v H1 ρ1 s1 k1 r1 q => ?_
  refine tP_of s1 q fun l h2 H2 ρ2 s2 k2 q => ?_
  refine tP_of s2 q fun u h3 H3 ρ3 s3 k3 q => ?_
  exact ⟨h3, ρ3, d, s3.hp, r1.mono (k2.trans k3), Res.wp_mono q fun r h4 q v4 H4 ρ4 hr4 k4 rr => q v4 H4 ρ4 (s3.of hr4 k4) (((k1.trans k2).trans k3).trans k4) rr⟩
theorem pe_revD {e : Expr} {k : Nat} {p1 p2 p3 : Pos} {fe : Sg → Hm → Res D} (he : PE X e (tE X.K fe)) :
    PE X (.Subscript e (.Slice none none (some (.UnaryOp .USub (.Constant (.int 1) k p1) p2)) p3) pos) (tE X.K fun σ h => (fe σ h).bind fun x h1 => revD x h1) := by
  refine PE.w (pe_revA he) fun σV H Q ⟨σ, h, ρ, s, q⟩ => ?_
  refine tE_of s q fun d h1 v H1 ρ1 s1 k1 r1 q => ?_
  have lst : ∀ xs, lstOf h1 d = some xs → (Res.ok (D.lst xs.reverse) h1).wp (fun r h' => ∀ v H' ρ', SR X.K σ h' ρ' σV H' → Kp h ρ H h' ρ' H' → Rel X.K h' ρ' H' r v → Q v H') → ∃ a xs, v = .ref a ∧ ((SqL X.K H1 a xs ∧ ∀ p, H1 p = none → Q (.ref p) (upd H1 p (.lst xs.reverse))) ∨
      (SqT X.K H1 a xs ∧ ∀ (p : Addr) (o : Obj), H1 p = none → o.dict = none → Q (.ref p) (upd H1 p (.frz o (.tup xs.reverse))))) := fun xs e q => by
    obtain ⟨a, vs, rfl, hs, rr⟩ := r1.lstv0 s1.hp e
    exact ⟨a, vs, rfl, .inl ⟨hs, fun p hp => q _ _ _ (s1.new hp) (k1.trans (Kp.new s1.hp hp)) (Rel.newL s1.hp hp rr.reverse)⟩⟩
  cases d with
  | tup xs =>
    cases r1 with
    | @tup a _ vs l rr => exact ⟨a, vs, rfl, .inr ⟨l.sq, fun p o hp ho => q _ _ _ (s1.new hp) (k1.trans (Kp.new s1.hp hp)) (Rel.newT s1.hp hp ho rr.reverse)⟩⟩
  | lst xs => exact lst xs rfl q
  | ref n =>
    have q : (match listOf? h1 n with
      | some xs => Res.ok (D.lst xs.reverse) h1
      | none => Res.stuck).wp _ := q
    cases k : listOf? h1 n with
    | none => rw [k] at q; exact False.elim q
    | some xs =>
      rw [k] at q
      exact lst xs k q
  | _ => exact False.elim q
theorem po_noneD : PO X none (tP X.K fun _ h => .ok none h) := PO.w po_none fun σV H Q ⟨σ, h, ρ, s, q⟩ => q H ρ s Kps.refl
theorem po_someD {e : Expr} {f : Sg → Hm → Res D} (he : PE X e (tE X.K f)) : PO X (some e) (tP X.K fun σ h => (f σ h).bind fun x h1 => match x with
    | .int i => .ok (some i) h1
    | _ => .stuck) := by
  refine PO.w (po_some he) fun σV H Q ⟨σ, h, ρ, s, q⟩ => ?_
  refine tE_of s q fun d h1 v H1 ρ1 s1 k1 r1 q => ?_
  cases d with
  | int i => exact ⟨i, rI_int r1, q _ _ s1 k1⟩
  | _ => exact False.elim q

/-! ### calls of defs -/
def spD (K : PySem.W.Frag) (n : Nat) (den : List D → Hm → Res D) : Sp := fun vs H Q _ => vs.length = n ∧ ∃ h ρ ds, HR K h ρ H ∧ Rels K h ρ H ds vs ∧ (den ds h).wp fun d h' => ∀ v H' ρ', HR K h' ρ' H' → Kp h ρ H h' ρ' H' → Rel K h' ρ' H' d v → Q v H'
structure CallOk (X : Cx) (x : Str) (den : List D → Hm → Res D) : Prop where
  ex : ∃ (f : Addr) (fd : FuncData) (ps : List Str) (k : Nat), FnOk X.prog X.w X.K X.mg X.base CX0 k f fd ps (spD X.K ps.length den) ∧ Room k X.A ∧ X.mg x = some (.ref f) ∧ PySem.W.keepIn X.K (.ref f) = true ∧ Binds X.K fd ps [] ∧
    (∀ ds h r h', den ds h = .ok r h' → ds.length = ps.length) ∧ PySem.W.nsIn X.K mainGlobals x = some (some (.ref f))
/-- f(.., k = v): the values by their places -/
structure CallKOk (X : Cx) (x : Str) (den : List D → Hm → Res D) (n : Nat) (ks : List Str) (perm : List Nat) : Prop where
  ex : ∃ (f : Addr) (fd : FuncData) (ps : List Str) (k : Nat), FnOk X.prog X.w X.K X.mg X.base CX0 k f fd ps (spD X.K ps.length den) ∧ Room k X.A ∧ X.mg x = some (.ref f) ∧ PySem.W.keepIn X.K (.ref f) = true ∧
    (∀ (s : Shared) (us ws : List Value), X.K.In s.heap → us.length = n → ws.length = ks.length → BindsTo s fd ⟨us, ks.zip ws⟩ (ps.zip (permV perm Value.none us ws))) ∧ (∀ ds h r h', den ds h = .ok r h' → ds.length = ps.length)
theorem sp_of {K : PySem.W.Frag} {n : Nat} {den : List D → Hm → Res D} {σ : Sg} {h0 h : Hm} {ρ0 ρ : List Addr} {σV : L2.St} {H0 H : Hp} {ds : List D} {vs : List V} {Q : VK} (hn : ∀ ds h r h', den ds h = .ok r h' → ds.length = n) (s : SR K σ h ρ σV H) (k0 : Kp h0 ρ0 H0 h ρ H) (r : Rels K h ρ H ds vs)
    (q : (den ds h).wp fun d h' => ∀ v H' ρ', SR K σ h' ρ' σV H' → Kp h0 ρ0 H0 h' ρ' H' → Rel K h' ρ' H' d v → Q v H') : spD K n den vs H Q E0 := by
  cases e : den ds h with
  | stuck => rw [e] at q; exact False.elim q
  | ok d h' =>
    refine ⟨by rw [← r.length]; exact hn _ _ _ _ e, h, ρ, ds, s.hp, r, ?_⟩
    exact Res.wp_mono q fun r h3 q v3 H3 ρ3 hr3 k3 rr => q v3 H3 ρ3 (s.of hr3 k3) (k0.trans k3) rr
theorem pe_callD {x : Str} {p : Pos} {e : Expr} {es : List Expr} {f : Sg → Hm → Res (List D)} {den : List D → Hm → Res D} (c : CallOk X x den) (hg : Gl X x) (hdb : (x == ("__debug__" : Str)) = false) (ha : PA X (e :: es) (tA X.K f)) (ns : noStars (e :: es) = true) :
    PE X (.Call (.Name x p) (e :: es) [] pos) (tE X.K fun σ h => (f σ h).bind fun ds h1 => den ds h1) := by
  obtain ⟨g, fd, ps, k, F, hr, hm, hk, hb, hn, _⟩ := c.ex
  have st : starEach (e :: es) X.env = (false, eval e X.env) :: starEach es X.env := star_cons (by
    unfold noStars at ns
    rw [List.all_cons, Bool.and_eq_true] at ns
    exact ns.1)
  have sn : (backTo pos (starEach es X.env)).any (·.1) = false := stars_none (by
    unfold noStars at ns ⊢
    rw [List.all_cons, Bool.and_eq_true] at ns
    exact ns.2)
  refine PE.w (pe_call F hr hg hm hk hb .nil pass0 ha hdb st sn) fun σV H Q ⟨σ, h, ρ, s, q⟩ => ?_
  refine tA_of s q fun ds h1 vs H1 ρ1 s1 k1 r1 q => ?_
  rw [List.append_nil]
  exact sp_of hn s1 k1 r1 q
theorem pe_call0D {x : Str} {p : Pos} {den : List D → Hm → Res D} (c : CallOk X x den) (hg : Gl X x) (hdb : (x == ("__debug__" : Str)) = false) :
    PE X (.Call (.Name x p) [] [] pos) (tE X.K fun σ h => den [] h) := by
  obtain ⟨g, fd, ps, k, F, hr, hm, hk, hb, hn, _⟩ := c.ex
  refine PE.w (pe_call0 F hr hg hm hk hb .nil pass0 hdb) fun σV H Q ⟨σ, h, ρ, s, q⟩ => ?_
  exact sp_of hn s Kps.refl .nil q
theorem pk_nilD : PK X [] (tA X.K fun _ h => .ok [] h) := ⟨fun pos pins s σ H Q I ⟨σD, h, ρ, sr, q⟩ => pk_nil.run pos pins s σ H Q I (q [] H ρ sr Kps.refl .nil)⟩
theorem pk_consD {nm : Option Str} {e : Expr} {kp : Pos} {kws : List Keyword} {f : Sg → Hm → Res D} {g : Sg → Hm → Res (List D)} (ha : PE X e (tE X.K f)) (hr : PK X kws (tA X.K g)) :
    PK X (⟨nm, e, kp⟩ :: kws) (tA X.K fun σ h => (f σ h).bind fun x h1 => (g σ h1).bind fun xs h2 => .ok (x :: xs) h2) := ⟨fun pos pins s σV H Q I ⟨σ, h, ρ, sr, q⟩ => (pk_cons ha hr).run pos pins s σV H Q I (by
  refine tE_of sr q fun d h1 v H1 ρ1 s1 k1 r1 q => ?_
  refine tA_of s1 q fun ds h2 vs H2 ρ2 s2 k2 r2 q => ?_
  exact q _ _ _ s2 (k1.trans k2) (.cons (r1.mono k2) r2))⟩
theorem permV_rel {K : PySem.W.Frag} {h : Hm} {ρ : List Addr} {H : Hp} {ds ks : List D} {vs ws : List V} (a : Rels K h ρ H ds vs) (b : Rels K h ρ H ks ws) : ∀ perm : List Nat, Rels K h ρ H (permV perm D.non ds ks) (permV perm V.non vs ws)
  | [] => .nil
  | i :: is => by
    refine .cons ?_ (permV_rel a b is)
    have r := a.append b
    cases e : (ds ++ ks)[i]? with
    | some d =>
      obtain ⟨v, h1, h2⟩ := r.get e
      dsimp only
      rw [List.getD_eq_getElem?_getD, List.getD_eq_getElem?_getD, e, h1]
      exact h2
    | none =>
      have : (vs ++ ws)[i]? = none := by
        have hl := r.length
        rw [List.getElem?_eq_none_iff] at e ⊢
        omega
      dsimp only
      rw [List.getD_eq_getElem?_getD, List.getD_eq_getElem?_getD, e, this]
      exact .non
theorem permV_vals {us : List V} {vs : List Value} {ws : List V} {zs : List Value} (a : Vals us vs) (b : Vals ws zs) : ∀ perm : List Nat, Vals (permV perm V.non us ws) (permV perm Value.none vs zs)
  | [] => .nil
  | i :: is => by
    refine .cons ?_ (permV_vals a b is)
    have r := a.append b
    cases e : (us ++ ws)[i]? with
    | some d =>
      obtain ⟨v, h1, h2⟩ := r.get e
      dsimp only
      rw [List.getD_eq_getElem?_getD, List.getD_eq_getElem?_getD, e, h1]
      exact h2
    | none =>
      have := r.none_of e
      dsimp only
      rw [List.getD_eq_getElem?_getD, List.getD_eq_getElem?_getD, e, this]
      rfl
theorem kbn_perm {K : PySem.W.Frag} {fd : FuncData} {ps ks : List Str} {n : Nat} {perm : List Nat} (h : ∀ (s : Shared) (us ws : List Value), K.In s.heap → us.length = n → ws.length = ks.length → BindsTo s fd ⟨us, ks.zip ws⟩ (ps.zip (permV perm Value.none us ws))) :
    KBn K fd ps n ks (permV perm Value.none) (permV perm V.non) := ⟨h, fun a b => permV_vals a b perm⟩
theorem kw_all {ks : List Str} {kws : List Keyword} {env : Env} {pos : Pos} (h : kws.map (·.arg) = ks.map some) : (backToKw pos (keywordEach kws env)).all (·.1.isSome) = true ∧ (backToKw pos (keywordEach kws env)).filterMap (·.1) = ks ∧ (backToKw pos (keywordEach kws env)).any (·.1.isNone) = false := by
  induction kws generalizing ks with
  | nil =>
    cases ks with
    | nil => exact ⟨rfl, rfl, rfl⟩
    | cons a b => cases h
  | cons k kws ih =>
    cases ks with
    | nil => cases h
    | cons a b =>
      obtain ⟨nm, e, kp⟩ := k
      simp only [List.map_cons, List.cons.injEq] at h
      obtain ⟨h1, h2⟩ := h
      subst h1
      obtain ⟨i1, i2, i3⟩ := ih h2
      refine ⟨?_, ?_, ?_⟩
      · show (true && (backToKw pos (keywordEach kws env)).all (·.1.isSome)) = true
        rw [i1]; rfl
      · show a :: (backToKw pos (keywordEach kws env)).filterMap (·.1) = a :: b
        rw [i2]
      · show (false || (backToKw pos (keywordEach kws env)).any (·.1.isNone)) = false
        rw [i3]; rfl
theorem any_split {α : Type} {p q : Bool} (a : p = false) (b : q = false) : (p || q) = false := by rw [a, b]; rfl
theorem pe_callkD {x : Str} {p : Pos} {e : Expr} {es : List Expr} {kws : List Keyword} {n : Nat} {ks : List Str} {perm : List Nat} {f g : Sg → Hm → Res (List D)} {den : List D → Hm → Res D} (c : CallKOk X x den n ks perm) (hg : Gl X x) (hdb : (x == ("__debug__" : Str)) = false)
    (ha : PA X (e :: es) (tA X.K f)) (hkw : PK X kws (tA X.K g)) (ns : noStars (e :: es) = true) (hks : kws.map (·.arg) = ks.map some) (hl : (e :: es).length = n) (hl2 : ∀ σ h ds h', f σ h = .ok ds h' → ds.length = (e :: es).length) (hl3 : ∀ σ h ds h', g σ h = .ok ds h' → ds.length = kws.length) :
    PE X (.Call (.Name x p) (e :: es) kws pos) (tE X.K fun σ h => (f σ h).bind fun ds h1 => (g σ h1).bind fun zs h2 => den (permV perm D.non ds zs) h2) := by
  obtain ⟨fa, fd, ps, k, F, hr, hm, hk, hb, hn⟩ := c.ex
  obtain ⟨k1, k2, k3⟩ := kw_all (env := X.env) (pos := pos) hks
  have hlk : ks.length = kws.length := by
    have := congrArg List.length hks
    simpa using this.symm
  have st : starEach (e :: es) X.env = (false, eval e X.env) :: starEach es X.env := star_cons (by
    unfold noStars at ns
    rw [List.all_cons, Bool.and_eq_true] at ns
    exact ns.1)
  refine PE.w (pe_callN F hr hg hm hk (kbn_perm (perm := perm) hb) pass0 ha hkw k1 k2 hdb st (any_split (α := Unit) (stars_none ns) k3)) ?_
  rintro σV H Q ⟨σ, h, ρ, s, q⟩
  refine ⟨σ, h, ρ, s, ?_⟩
  cases e1 : f σ h with
  | stuck =>
    dsimp only at q
    rw [e1] at q
    exact False.elim q
  | ok ds h1 =>
    dsimp only at q
    rw [e1] at q
    intro vs H1 ρ1 s1 k1 r1
    refine ⟨σ, h1, ρ1, s1, ?_⟩
    cases e2 : g σ h1 with
    | stuck =>
      rw [Res.bind_ok, e2] at q
      exact False.elim q
    | ok zs h2 =>
      rw [Res.bind_ok, e2] at q
      intro ws H2 ρ2 s2 k2 r2
      refine ⟨?_, ?_, sp_of hn s2 (k1.trans k2) (permV_rel (r1.mono k2) r2 perm) q⟩
      · rw [← r1.length, hl2 _ _ _ _ e1, hl]
      · rw [← r2.length, hl3 _ _ _ _ e2, hlk]
theorem pe_callk0D {x : Str} {p : Pos} {kws : List Keyword} {ks : List Str} {perm : List Nat} {g : Sg → Hm → Res (List D)} {den : List D → Hm → Res D} (c : CallKOk X x den 0 ks perm) (hg : Gl X x) (hdb : (x == ("__debug__" : Str)) = false)
    (hkw : PK X kws (tA X.K g)) (hks : kws.map (·.arg) = ks.map some) (hl3 : ∀ σ h ds h', g σ h = .ok ds h' → ds.length = kws.length) :
    PE X (.Call (.Name x p) [] kws pos) (tE X.K fun σ h => (g σ h).bind fun zs h2 => den (permV perm D.non [] zs) h2) := by
  obtain ⟨fa, fd, ps, k, F, hr, hm, hk, hb, hn⟩ := c.ex
  obtain ⟨k1, k2, k3⟩ := kw_all (env := X.env) (pos := pos) hks
  have hlk : ks.length = kws.length := by
    have := congrArg List.length hks
    simpa using this.symm
  refine ⟨fun pins s σV H Q I ⟨σ, h, ρ, sr, q⟩ => ?_⟩
  refine wpAny_Call_Name_kw (ld_glob I hg hm ?_ hdb)
  refine PySem.W.callWith_KW0 (h₀ := X.base) I.ok.mod.kin hk k1 ?_ (any_split (α := Unit) (by rfl) k3)
  have q0 : tA X.K g σV H fun zs H2 => zs.length = ks.length ∧ spD X.K ps.length den (permV perm V.non [] zs) H2 Q E0 := by
    refine ⟨σ, h, ρ, sr, ?_⟩
    cases e2 : g σ h with
    | stuck =>
      dsimp only at q
      rw [e2] at q
      exact False.elim q
    | ok zs h2 =>
      dsimp only at q
      rw [e2, Res.bind_ok] at q
      intro ws H2 ρ2 s2 k2 r2
      exact ⟨by rw [← r2.length, hl3 _ _ _ _ e2, hlk], sp_of hn s2 k2 (permV_rel .nil r2 perm) q⟩
  refine thn (hkw.run pos pins s σV H _ I q0) fun ws s2 ⟨zs, H2, I2, rz, l2, q2⟩ => ⟨I2.kIn, ?_⟩
  rw [k2]
  exact run_fnN (us := []) (vs := []) F hr (kbn_perm (perm := perm) hb) pass0 I2 .nil rz rfl l2 q2
end

/-! Mini 9: what is walked, targets, comprehensions. -/

/-- an iterator walks the items -/
def ItR (K : PySem.W.Frag) (J : L2.It) (xs : List D) (h : Hm) (ρ : List Addr) (H : Hp) : Prop := ∀ h2 ρ2 H2, HR K h2 ρ2 H2 → Kp h ρ H h2 ρ2 H2 →
  (∀ (i : Nat) (d : D), xs[i]? = some d → J.go i H2 ∧ ∀ x H3, J.yld i H2 x H3 → HR K h2 ρ2 H3 ∧ Kp h2 ρ2 H2 h2 ρ2 H3 ∧ Rel K h2 ρ2 H3 d x) ∧ J.stop xs.length H2
def tI (K : PySem.W.Frag) (f : Sg → Hm → Res (List D)) : TI := fun σV H R => ∃ σ h ρ, SR K σ h ρ σV H ∧ (f σ h).wp fun xs h' => ∀ J H' ρ', SR K σ h' ρ' σV H' → Kp h ρ H h' ρ' H' → ItR K J xs h' ρ' H' → R J H'
theorem PI.w {X : Cx} {tg it : Expr} {t t' : TI} (p : PI X tg it t) (w : ∀ σ H R, t' σ H R → t σ H R) : PI X tg it t' := ⟨fun pins s σ H R I q => p.run pins s σ H R I (w σ H R q)⟩
section
variable {X : Cx} {pos : Pos} {tg : Expr}
theorem pi_seq {l : Expr} {tl : TE} (hl : PE X l tl) : PI X tg l (fun σ H R => tl σ H fun x H1 => ∃ a, x = .ref a ∧ (((∃ xs, SqL X.K H1 a xs) ∧ R (Itl X.K a) H1) ∨ ((∃ xs, SqT X.K H1 a xs) ∧ R (Itt X.K a) H1))) := by
  refine ⟨fun pins s σ H R I h => ?_⟩
  refine thn (hl.run pins s σ H _ I h) fun v s1 ⟨x, H1, I1, r1, q1⟩ => ?_
  obtain ⟨a, e, q⟩ := q1
  subst e
  cases r1
  have hf : ∀ b ∈ [s1.heap.objs.size], FpOk X pins H1 b := fun b hb => by
    have e : b = s1.heap.objs.size := by simpa using hb
    subst e
    exact I1.fpOk (Nat.le_refl _) (I1.hok.fresh (Nat.le_refl _))
  rcases q with ⟨⟨xs, hq⟩, q⟩ | ⟨⟨xs, hq⟩, q⟩
  · obtain ⟨its, rv, p, hz⟩ := I1.list hq
    refine wpAny_pyIter_list p.isList ?_
    exact ⟨s1.heap.objs.size, [s1.heap.objs.size], _, _, H1, rfl, I1.kept (t' := s1.toks) fun b o e => Heap.get?_push_of_some _ e, turn_list a _, ⟨_, Heap.get?_push_size _ rfl, rfl, rfl⟩, hf, q⟩
  · obtain ⟨its, rv, p, hz⟩ := I1.tuple hq
    refine wpAny_pyIter_tuple (show s1.heap.IsTuple a its.toArray from p) ?_
    exact ⟨s1.heap.objs.size, [s1.heap.objs.size], _, _, H1, rfl, I1.kept (t' := s1.toks) fun b o e => Heap.get?_push_of_some _ e, turn_tuple a _, ⟨_, Heap.get?_push_size _ rfl, rfl, rfl⟩, hf, q⟩
theorem itR_list {K : PySem.W.Frag} {h : Hm} {ρ : List Addr} {H : Hp} {a : Addr} {xs : List D} (r : Rel K h ρ H (.lst xs) (.ref a)) : ItR K (Itl K a) xs h ρ H := by
  intro h2 ρ2 H2 hr k
  have r2 := RD.mono k r
  cases r2 with
  | @lst _ _ vs l q =>
    refine ⟨fun i d e => ?_, vs, l.sq, by rw [q.length]; exact Nat.le_refl _⟩
    obtain ⟨v, e1, e2⟩ := q.get e
    refine ⟨⟨vs, v, l.sq, e1⟩, ?_⟩
    rintro x H3 ⟨rfl, y⟩
    have e3 := y vs l.sq
    rw [e1] at e3
    cases e3
    exact ⟨hr, Kps.refl, e2⟩
theorem itR_tup {K : PySem.W.Frag} {h : Hm} {ρ : List Addr} {H : Hp} {a : Addr} {xs : List D} (r : Rel K h ρ H (.tup xs) (.ref a)) : ItR K (Itt K a) xs h ρ H := by
  intro h2 ρ2 H2 hr k
  have r2 := RD.mono k r
  cases r2 with
  | @tup _ _ vs l q =>
    refine ⟨fun i d e => ?_, vs, l.sq, by rw [q.length]; exact Nat.le_refl _⟩
    obtain ⟨v, e1, e2⟩ := q.get e
    refine ⟨⟨vs, v, l.sq, e1⟩, ?_⟩
    rintro x H3 ⟨rfl, y⟩
    have e3 := y vs l.sq
    rw [e1] at e3
    cases e3
    exact ⟨hr, Kps.refl, e2⟩
theorem pi_seqD {l : Expr} {f : Sg → Hm → Res D} (hl : PE X l (tE X.K f)) : PI X tg l (tI X.K fun σ h => (f σ h).bind itD) := by
  refine PI.w (pi_seq hl) fun σV H R ⟨σ, h, ρ, s, q⟩ => ?_
  refine tE_of s q fun d h1 v H1 ρ1 s1 k1 r1 q => ?_
  cases d with
  | lst xs =>
    have r0 := r1
    cases r1 with
    | @lst a _ vs l rr => exact ⟨a, rfl, .inl ⟨⟨vs, l.sq⟩, q _ _ _ s1 k1 (itR_list r0)⟩⟩
  | tup xs =>
    have r0 := r1
    cases r1 with
    | @tup a _ vs l rr => exact ⟨a, rfl, .inr ⟨⟨vs, l.sq⟩, q _ _ _ s1 k1 (itR_tup r0)⟩⟩
  | _ => exact False.elim q
theorem rngD_get : ∀ (n : Nat) (lo : Int) (i : Nat) (d : D), (rngD lo n)[i]? = some d → i < n ∧ d = .int (lo + i)
  | 0, _, _, _, e => by simp [rngD] at e
  | n + 1, lo, 0, d, e => by
    have e : some (D.int lo) = some d := e
    cases e
    exact ⟨Nat.succ_pos _, by simp⟩
  | n + 1, lo, i + 1, d, e => by
    have e : (rngD (lo + 1) n)[i]? = some d := by simpa [rngD] using e
    obtain ⟨h1, h2⟩ := rngD_get n (lo + 1) i d e
    refine ⟨Nat.succ_lt_succ h1, ?_⟩
    rw [h2]
    congr 1
    omega
theorem rngD_length : ∀ (n : Nat) (lo : Int), (rngD lo n).length = n
  | 0, _ => rfl
  | n + 1, lo => by simp [rngD, rngD_length n]
theorem itR_rng {K : PySem.W.Frag} {h : Hm} {ρ : List Addr} {H : Hp} {lo : Int} {n : Nat} : ItR K (Itr lo n) (rngD lo n) h ρ H := by
  intro h2 ρ2 H2 hr k
  refine ⟨fun i d e => ?_, by rw [rngD_length]; exact Nat.le_refl _⟩
  obtain ⟨e1, rfl⟩ := rngD_get n lo i d e
  refine ⟨e1, ?_⟩
  rintro x H3 ⟨rfl, rfl⟩
  exact ⟨hr, Kps.refl, .int _⟩
theorem smallI_ok {i : Int} (h : smallI i = true) : -(2 ^ 62) ≤ i ∧ i < 2 ^ 62 := by
  unfold smallI at h
  have h := of_decide_eq_true h
  omega
theorem smallI_mk {i : Int} (h1 : -1000000000 ≤ i) (h2 : i ≤ 1000000000) : smallI i = true := decide_eq_true (by omega)
theorem pi_rng1D {a : Expr} {p : Pos} {f : Sg → Hm → Res D} (hg : Gl X "range") (hm : X.mg "range" = none) (ha : PE X a (tE X.K f)) (ns : notStar a = true) :
    PI X tg (.Call (.Name "range" p) [a] [] pos) (tI X.K fun σ h => (f σ h).bind fun x h1 => match x with
    | .int j => .guard (smallI j) (.ok (rngD 0 j.toNat) h1)
    | _ => .stuck) := by
  refine PI.w (pi_range1 hg hm (pa_cons ha pa_nil (star_cons ns)) (star_cons ns)) fun σV H R ⟨σ, h, ρ, s, q⟩ => ?_
  refine tE_of s q fun d h1 v H1 ρ1 s1 k1 r1 q => ?_
  cases d with
  | int j =>
    obtain ⟨c, q⟩ := Res.wp_guard q
    obtain ⟨c1, c2⟩ := smallI_ok c
    exact ⟨j, by rw [rI_int r1], c1, c2, q _ _ _ s1 k1 itR_rng⟩
  | _ => exact False.elim q
theorem pi_rng2D {a b : Expr} {p : Pos} {f g : Sg → Hm → Res D} (hg : Gl X "range") (hm : X.mg "range" = none) (ha : PE X a (tE X.K f)) (hb : PE X b (tE X.K g)) (ns : notStar a = true) (ns2 : notStar b = true) :
    PI X tg (.Call (.Name "range" p) [a, b] [] pos) (tI X.K fun σ h => (f σ h).bind fun x h1 => (g σ h1).bind fun y h2 => match x, y with
    | .int i, .int j => .guard (smallI i && smallI j) (.ok (rngD i (j - i).toNat) h2)
    | _, _ => .stuck) := by
  refine PI.w (pi_range2 hg hm (pa_cons ha (pa_cons hb pa_nil (star_cons ns2)) (star_cons ns)) (by rw [star_cons ns, star_cons ns2] <;> rfl) (star_cons ns2)) fun σV H R ⟨σ, h, ρ, s, q⟩ => ?_
  refine tE_of s q fun d h1 v H1 ρ1 s1 k1 r1 q => ?_
  refine tE_of s1 q fun e h2 w H2 ρ2 s2 k2 r2 q => ?_
  cases d with
  | int i =>
    cases e with
    | int j =>
      obtain ⟨c, q⟩ := Res.wp_guard q
      rw [Bool.and_eq_true] at c
      obtain ⟨c1, c2⟩ := smallI_ok c.1
      obtain ⟨c3, c4⟩ := smallI_ok c.2
      exact ⟨i, j, by rw [rI_int r1, rI_int r2], ⟨c1, c2, c3, c4⟩, q _ _ _ s2 (k1.trans k2) itR_rng⟩
    | _ => exact False.elim q
  | _ => exact False.elim q

/-! reversed, enumerate, zip -/
theorem itR_rev {K : PySem.W.Frag} {h : Hm} {ρ : List Addr} {H : Hp} {a : Addr} {xs : List D} {n : Nat} (hn : xs.length = n) (r : Rel K h ρ H (.lst xs) (.ref a)) : ItR K (Itv K a n) xs.reverse h ρ H := by
  intro h2 ρ2 H2 hr k
  have r2 := RD.mono k r
  cases r2 with
  | @lst _ _ vs l q =>
    refine ⟨fun i d e => ?_, by rw [List.length_reverse, hn]; exact Nat.le_refl _⟩
    have hi : i < xs.length := by
      have := (List.getElem?_eq_some_iff.mp e).1
      rwa [List.length_reverse] at this
    rw [List.getElem?_reverse hi, hn] at e
    obtain ⟨v, e1, e2⟩ := q.get e
    refine ⟨⟨by omega, vs, v, l.sq, e1⟩, ?_⟩
    rintro x H3 ⟨rfl, y⟩
    have e3 := y vs l.sq
    rw [e1] at e3
    cases e3
    exact ⟨hr, Kps.refl, e2⟩
theorem itR_revT {K : PySem.W.Frag} {h : Hm} {ρ : List Addr} {H : Hp} {a : Addr} {xs : List D} {n : Nat} (hn : xs.length = n) (r : Rel K h ρ H (.tup xs) (.ref a)) : ItR K (RT.ItvT K a n) xs.reverse h ρ H := by
  intro h2 ρ2 H2 hr k
  have r2 := RD.mono k r
  cases r2 with
  | @tup _ _ vs l q =>
    refine ⟨fun i d e => ?_, by rw [List.length_reverse, hn]; exact Nat.le_refl _⟩
    have hi : i < xs.length := by
      have := (List.getElem?_eq_some_iff.mp e).1
      rwa [List.length_reverse] at this
    rw [List.getElem?_reverse hi, hn] at e
    obtain ⟨v, e1, e2⟩ := q.get e
    refine ⟨⟨by omega, vs, v, l.sq, e1⟩, ?_⟩
    rintro x H3 ⟨rfl, y⟩
    have e3 := y vs l.sq
    rw [e1] at e3
    cases e3
    exact ⟨hr, Kps.refl, e2⟩
theorem pi_rvsD {l : Expr} {p : Pos} {f : Sg → Hm → Res D} (hg : Gl X "reversed") (hm : X.mg "reversed" = none) (hl : PE X l (tE X.K f)) (ns : notStar l = true) : PI X tg (.Call (.Name "reversed" p) [l] [] pos) (tI X.K fun σ h => (f σ h).bind fun x h1 => (itD x h1).bind fun xs h2 => .ok xs.reverse h2) := by
  refine PI.w (RT.pi_revA hg hm hl (star_cons ns)) fun σV H R ⟨σ, h, ρ, s, q⟩ => ?_
  refine tE_of s q fun d h1 v H1 ρ1 s1 k1 r1 q => ?_
  cases d with
  | lst xs =>
    have r0 := r1
    cases r1 with
    | @lst a _ vs l rr => exact ⟨a, vs, rfl, .inl ⟨l.sq, q _ _ _ s1 k1 (itR_rev rr.length r0)⟩⟩
  | tup xs =>
    have r0 := r1
    cases r1 with
    | @tup a _ vs l rr => exact ⟨a, vs, rfl, .inr ⟨l.sq, q _ _ _ s1 k1 (itR_revT rr.length r0)⟩⟩
  | _ => exact False.elim q
theorem enumD_get : ∀ (xs : List D) (k i : Nat) (d : D), (enumD k xs)[i]? = some d → ∃ x, xs[i]? = some x ∧ d = .wtup [.int (k + i : Nat), x]
  | [], _, _, _, e => by simp [enumD] at e
  | x :: xs, k, 0, d, e => by
    have e : some (D.wtup [.int k, x]) = some d := e
    cases e
    exact ⟨x, rfl, rfl⟩
  | x :: xs, k, i + 1, d, e => by
    have e : (enumD (k + 1) xs)[i]? = some d := by simpa [enumD] using e
    obtain ⟨y, h1, h2⟩ := enumD_get xs (k + 1) i d e
    refine ⟨y, by simpa using h1, ?_⟩
    rw [h2]
    congr 3
    omega
theorem enumD_length : ∀ (xs : List D) (k : Nat), (enumD k xs).length = xs.length
  | [], _ => rfl
  | x :: xs, k => by simp [enumD, enumD_length xs]
theorem itR_enum {K : PySem.W.Frag} {h : Hm} {ρ : List Addr} {H : Hp} {a : Addr} {xs : List D} (r : Rel K h ρ H (.lst xs) (.ref a)) : ItR K (Ite K a) (enumD 0 xs) h ρ H := by
  intro h2 ρ2 H2 hr k
  have r2 := RD.mono k r
  cases r2 with
  | @lst _ _ vs l q =>
    refine ⟨fun i d e => ?_, vs, l.sq, by rw [enumD_length, q.length]; exact Nat.le_refl _⟩
    obtain ⟨y, ey, rfl⟩ := enumD_get _ _ _ _ e
    obtain ⟨v, e1, e2⟩ := q.get ey
    refine ⟨⟨vs, v, l.sq, e1⟩, ?_⟩
    rintro x H3 ⟨T, z, rfl, hT, rfl, y3⟩
    have e3 := y3 vs l.sq
    rw [e1] at e3
    cases e3
    refine ⟨hr.new hT, Kp.new hr hT, Rel.newW hr hT (.cons ?_ (.cons e2 .nil))⟩
    rw [Nat.zero_add]
    exact .int _
theorem pi_enmD {l : Expr} {p tpos : Pos} {elts : List Expr} {kk : Nat} {f : Sg → Hm → Res D} (hg : Gl X "enumerate") (hm : X.mg "enumerate" = none) (hl : PE X l (tE X.K f)) (ns : notStar l = true) : PI X (.Tuple elts kk tpos) (.Call (.Name "enumerate" p) [l] [] pos) (tI X.K fun σ h => (f σ h).bind fun x h1 => match x with
    | .lst xs => .ok (enumD 0 xs) h1
    | _ => .stuck) := by
  refine PI.w (pi_enum hg hm (pa_cons hl pa_nil (star_cons ns)) (star_cons ns)) fun σV H R ⟨σ, h, ρ, s, q⟩ => ?_
  refine tE_of s q fun d h1 v H1 ρ1 s1 k1 r1 q => ?_
  cases d with
  | lst xs =>
    have r0 := r1
    cases r1 with
    | @lst a _ vs l rr => exact ⟨a, vs, rfl, l.sq, q _ _ _ s1 k1 (itR_enum r0)⟩
  | _ => exact False.elim q
theorem zipD_get : ∀ (xs ys : List D) (i : Nat) (d : D), (zipD xs ys)[i]? = some d → ∃ x y, xs[i]? = some x ∧ ys[i]? = some y ∧ d = .wtup [x, y]
  | [], _, _, _, e => by simp [zipD] at e
  | _ :: _, [], _, _, e => by simp [zipD] at e
  | x :: xs, y :: ys, 0, d, e => by
    have e : some (D.wtup [x, y]) = some d := e
    cases e
    exact ⟨x, y, rfl, rfl, rfl⟩
  | x :: xs, y :: ys, i + 1, d, e => by
    have e : (zipD xs ys)[i]? = some d := by simpa [zipD] using e
    obtain ⟨a, b, h1, h2, h3⟩ := zipD_get xs ys i d e
    exact ⟨a, b, by simpa using h1, by simpa using h2, h3⟩
theorem zipD_length : ∀ (xs ys : List D), xs.length ≤ (zipD xs ys).length ∨ ys.length ≤ (zipD xs ys).length
  | [], _ => .inl (Nat.zero_le _)
  | _ :: _, [] => .inr (Nat.zero_le _)
  | x :: xs, y :: ys => by
    rcases zipD_length xs ys with h | h
    · exact .inl (by simp [zipD]; exact h)
    · exact .inr (by simp [zipD]; exact h)
theorem itR_zip {K : PySem.W.Frag} {h : Hm} {ρ : List Addr} {H : Hp} {a b : Addr} {xs ys : List D} (r : Rel K h ρ H (.lst xs) (.ref a)) (rb : Rel K h ρ H (.lst ys) (.ref b)) : ItR K (Itz K a b) (zipD xs ys) h ρ H := by
  intro h2 ρ2 H2 hr k
  have r2 := RD.mono k r
  have rb2 := RD.mono k rb
  cases r2 with
  | @lst _ _ vs l q =>
    cases rb2 with
    | @lst _ _ ws l2 q2 =>
      refine ⟨fun i d e => ?_, vs, ws, l.sq, l2.sq, by rw [← q.length, ← q2.length]; exact zipD_length xs ys⟩
      obtain ⟨x, y, ex, ey, rfl⟩ := zipD_get _ _ _ _ e
      obtain ⟨v, e1, e2⟩ := q.get ex
      obtain ⟨w, f1, f2⟩ := q2.get ey
      refine ⟨⟨vs, ws, v, w, l.sq, l2.sq, e1, f1⟩, ?_⟩
      rintro x H3 ⟨T, z, z2, rfl, hT, rfl, y3, y4⟩
      have e3 := y3 vs l.sq
      have e4 := y4 ws l2.sq
      rw [e1] at e3
      rw [f1] at e4
      cases e3
      cases e4
      exact ⟨hr.new hT, Kp.new hr hT, Rel.newW hr hT (.cons e2 (.cons f2 .nil))⟩
theorem itR_zipT {K : PySem.W.Frag} {h : Hm} {ρ : List Addr} {H : Hp} {a b : Addr} {xs ys : List D} (r : Rel K h ρ H (.tup xs) (.ref a)) (rb : Rel K h ρ H (.tup ys) (.ref b)) : ItR K (RZ.ItzT K a b) (zipD xs ys) h ρ H := by
  intro h2 ρ2 H2 hr k
  have r2 := RD.mono k r
  have rb2 := RD.mono k rb
  cases r2 with
  | @tup _ _ vs l q =>
    cases rb2 with
    | @tup _ _ ws l2 q2 =>
      refine ⟨fun i d e => ?_, vs, ws, l.sq, l2.sq, by rw [← q.length, ← q2.length]; exact zipD_length xs ys⟩
      obtain ⟨x, y, ex, ey, rfl⟩ := zipD_get _ _ _ _ e
      obtain ⟨v, e1, e2⟩ := q.get ex
      obtain ⟨w, f1, f2⟩ := q2.get ey
      refine ⟨⟨vs, ws, v, w, l.sq, l2.sq, e1, f1⟩, ?_⟩
      rintro x H3 ⟨T, z, z2, rfl, hT, rfl, y3, y4⟩
      have e3 := y3 vs l.sq
      have e4 := y4 ws l2.sq
      rw [e1] at e3
      rw [f1] at e4
      cases e3
      cases e4
      exact ⟨hr.new hT, Kp.new hr hT, Rel.newW hr hT (.cons e2 (.cons f2 .nil))⟩
theorem pi_zpD {l l2 : Expr} {p tpos : Pos} {elts : List Expr} {kk : Nat} {f g : Sg → Hm → Res D} (hg : Gl X "zip") (hm : X.mg "zip" = none) (hl : PE X l (tE X.K f)) (hl2 : PE X l2 (tE X.K g)) (ns : notStar l = true) (ns2 : notStar l2 = true) : PI X (.Tuple elts kk tpos) (.Call (.Name "zip" p) [l, l2] [] pos) (tI X.K fun σ h => (f σ h).bind fun x h1 => (g σ h1).bind fun y h2 => match x, y with
    | .lst xs, .lst ys => .ok (zipD xs ys) h2
    | .tup xs, .tup ys => .ok (zipD xs ys) h2
    | _, _ => .stuck) := by
  refine PI.w (RZ.pi_zipA hg hm (pa_cons hl (pa_cons hl2 pa_nil (star_cons ns2)) (star_cons ns)) (star_cons ns) (by rw [star_cons ns2] <;> rfl)) fun σV H R ⟨σ, h, ρ, s, q⟩ => ?_
  refine tE_of s q fun d h1 v H1 ρ1 s1 k1 r1 q => ?_
  refine tE_of s1 q fun d2 h2 v2 H2 ρ2 s2 k2 r2 q => ?_
  have r1 := r1.mono k2
  cases d with
  | lst xs =>
    cases d2 with
    | lst ys =>
      have r0 := r1
      have r00 := r2
      cases r1 with
      | @lst a _ vs l rr =>
        cases r2 with
        | @lst b _ ws l2 rr2 => exact ⟨a, b, vs, ws, rfl, .inl ⟨l.sq, l2.sq, q _ _ _ s2 (k1.trans k2) (itR_zip r0 r00)⟩⟩
    | _ => exact False.elim q
  | tup xs =>
    cases d2 with
    | tup ys =>
      have r0 := r1
      have r00 := r2
      cases r1 with
      | @tup a _ vs l rr =>
        cases r2 with
        | @tup b _ ws l2 rr2 => exact ⟨a, b, vs, ws, rfl, .inr ⟨l.sq, l2.sq, q _ _ _ s2 (k1.trans k2) (itR_zipT r0 r00)⟩⟩
    | _ => exact False.elim q
  | _ => exact False.elim q

theorem itR_enumT {K : PySem.W.Frag} {h : Hm} {ρ : List Addr} {H : Hp} {a : Addr} {xs : List D} (r : Rel K h ρ H (.tup xs) (.ref a)) : ItR K (IteT K a) (enumD 0 xs) h ρ H := by
  intro h2 ρ2 H2 hr k
  have r2 := RD.mono k r
  cases r2 with
  | @tup _ _ vs l q =>
    refine ⟨fun i d e => ?_, vs, l.sq, by rw [enumD_length, q.length]⟩
    obtain ⟨y, ey, rfl⟩ := enumD_get _ _ _ _ e
    obtain ⟨v, e1, e2⟩ := q.get ey
    refine ⟨⟨vs, v, l.sq, e1⟩, ?_⟩
    rintro x H3 ⟨T, z, rfl, hT, rfl, y3⟩
    have e3 := y3 vs l.sq
    rw [e1] at e3
    cases e3
    refine ⟨hr.new hT, Kp.new hr hT, Rel.newW hr hT (.cons ?_ (.cons e2 .nil))⟩
    rw [Nat.zero_add]
    exact .int _
theorem pi_enmTD {l : Expr} {p tpos : Pos} {elts : List Expr} {kk : Nat} {f : Sg → Hm → Res D} (hg : Gl X "enumerate") (hm : X.mg "enumerate" = none) (hl : PE X l (tE X.K f)) (ns : notStar l = true) : PI X (.Tuple elts kk tpos) (.Call (.Name "enumerate" p) [l] [] pos) (tI X.K fun σ h => (f σ h).bind fun x h1 => match x with
    | .tup xs => .ok (enumD 0 xs) h1
    | _ => .stuck) := by
  refine PI.w (pi_enumT hg hm (pa_cons hl pa_nil (star_cons ns)) (star_cons ns)) fun σV H R ⟨σ, h, ρ, s, q⟩ => ?_
  refine tE_of s q fun d h1 v H1 ρ1 s1 k1 r1 q => ?_
  cases d with
  | tup xs =>
    have r0 := r1
    cases r1 with
    | @tup a _ vs l rr => exact ⟨a, vs, rfl, l.sq, q _ _ _ s1 k1 (itR_enumT r0)⟩
  | _ => exact False.elim q
theorem itR_str {K : PySem.W.Frag} {h : Hm} {ρ : List Addr} {H : Hp} {x : Str} : ItR K (Its x) (signsD x) h ρ H := by
  intro h2 ρ2 H2 hr k
  unfold signsD
  refine ⟨fun i d e => ?_, ?_⟩
  · rw [List.getElem?_map] at e
    cases c : x.cps.toList[i]? with
    | none => rw [c] at e; cases e
    | some n =>
      rw [c] at e
      cases e
      have hn : x.cps[i]? = some n := by rw [← Array.getElem?_toList]; exact c
      have hi := (Array.getElem?_eq_some_iff.mp hn).1
      refine ⟨hi, ?_⟩
      rintro y H3 ⟨rfl, m, hm, rfl⟩
      rw [hn] at hm
      cases hm
      exact ⟨hr, Kps.refl, .str _⟩
  · show x.cps.size ≤ _
    rw [List.length_map, Array.length_toList]
    exact Nat.le_refl _
theorem pi_sgnD {l : Expr} {f : Sg → Hm → Res D} (hl : PE X l (tE X.K f)) : PI X tg l (tI X.K fun σ h => (f σ h).bind itSD) := by
  refine PI.w (pi_str hl) fun σV H R ⟨σ, h, ρ, s, q⟩ => ?_
  refine tE_of s q fun d h1 v H1 ρ1 s1 k1 r1 q => ?_
  cases d with
  | str x => exact ⟨x, rI_str r1, q _ _ _ s1 k1 itR_str⟩
  | _ => exact False.elim q

/-! ### len(set(t)), list(range(..)), dicts, defs as values -/
theorem keys_rel {K : PySem.W.Frag} {h : Hm} {ρ : List Addr} {H : Hp} : ∀ {xs : List D} {ks : List Key} {vs : List V}, keysOf xs = some ks → Rels K h ρ H xs vs → vs = ks.map kV
  | [], _, _, e, r => by cases e; cases r; rfl
  | x :: xs, ks, _, e, r => by
    cases r with
    | @cons d v ds vs a b =>
      unfold keysOf at e
      cases k1 : keyOf x with
      | none => rw [k1] at e; cases e
      | some k =>
        cases k2 : keysOf xs with
        | none => rw [k1, k2] at e; cases e
        | some ks2 =>
          rw [k1, k2] at e
          cases e
          rw [keys_rel k2 b, List.map_cons]
          congr 1
          cases x <;> first | cases k1 | skip
          · exact rI_int a
          · exact rI_str a
theorem pe_lensetD {a : Expr} {f : Sg → Hm → Res D} {p p2 q : Pos} (hc : X.calm = true) (hg : Gl X "len") (hm : X.mg "len" = none) (hg2 : Gl X "set") (hm2 : X.mg "set" = none) (ha : PE X a (tE X.K f)) (ns : notStar a = true) :
    PE X (.Call (.Name "len" p) [.Call (.Name "set" p2) [a] [] q] [] pos) (tE X.K fun σ h => (f σ h).bind lensetD) := by
  refine PE.w (pe_lenSetK hc hg hm hg2 hm2 ha (star_cons ns)) fun σV H Q ⟨σ, h, ρ, s, q⟩ => ?_
  refine tE_of s q fun d h1 v H1 ρ1 s1 k1 r1 q => ?_
  cases d with
  | tup xs =>
    cases r1 with
    | @tup a _ vs l rr =>
      have q : (match keysOf xs with
        | some ks => Res.guard (decide (ks.length ≤ 1000)) (.ok (D.int (distS ks)) h1)
        | none => .stuck).wp _ := q
      cases e : keysOf xs with
      | none => rw [e] at q; exact False.elim q
      | some ks =>
        rw [e] at q
        obtain ⟨c, q⟩ := Res.wp_guard q
        have ev := keys_rel e rr
        subst ev
        exact ⟨a, ks, rfl, l.sq, by have := of_decide_eq_true c; unfold scanBound; omega, q _ _ _ s1 k1 (.int _)⟩
  | _ => exact False.elim q
theorem rg_ok {i j : Int} (h : rgOkB i j = true) : RgOk i j := by
  unfold rgOkB at h
  rw [Bool.and_eq_true, Bool.and_eq_true] at h
  obtain ⟨c1, c2⟩ := smallI_ok h.1.1
  obtain ⟨c3, c4⟩ := smallI_ok h.1.2
  exact ⟨c1, c2, c3, c4, of_decide_eq_true h.2⟩
theorem rg_rel {K : PySem.W.Frag} {h : Hm} {ρ : List Addr} {H : Hp} : ∀ (n : Nat) (i : Int), Rels K h ρ H (rngD i n) ((List.range n).map fun k => V.int (i + (k : Nat)))
  | 0, i => .nil
  | n + 1, i => by
    rw [List.range_succ_eq_map, List.map_cons, List.map_map]
    refine .cons ?_ ?_
    · have e : (i + ((0 : Nat) : Int)) = i := by omega
      rw [e]
      exact .int i
    · have z := rg_rel (K := K) (h := h) (ρ := ρ) (H := H) n (i + 1)
      have e : ((fun k => V.int (i + (k : Nat))) ∘ Nat.succ) = fun k : Nat => V.int (i + 1 + (k : Nat)) := by
        funext k
        show V.int _ = V.int _
        congr 1
        omega
      rw [e]
      exact z
theorem pe_rngsD {a b : Expr} {f g : Sg → Hm → Res D} {l : Bool} {x : Str} {p p2 q : Pos} (hx : x = if l = true then ("list" : Str) else ("tuple" : Str)) (hc : X.calm = true) (hg : Gl X x) (hm : X.mg x = none) (hg2 : Gl X "range") (hm2 : X.mg "range" = none) (ha : PE X a (tE X.K f)) (hb : PE X b (tE X.K g)) (ns : notStar a = true) (ns2 : notStar b = true) :
    PE X (.Call (.Name x p) [.Call (.Name "range" p2) [a, b] [] q] [] pos) (tE X.K fun σ h => (f σ h).bind fun x h1 => (g σ h1).bind fun y h2 => rngsD l x y h2) := by
  have rg := prg_2 (p := p2) (pos := q) hg2 hm2 ha hb (star_cons ns) (star_cons ns2) (by rw [star_cons ns2] <;> rfl)
  cases l with
  | true =>
    subst hx
    refine PE.w (pe_listRg hc hg hm rg (by rfl)) fun σV H Q ⟨σ, h, ρ, s, q⟩ => ?_
    refine tE_of s q fun d h1 v H1 ρ1 s1 k1 r1 q => ?_
    refine tE_of s1 q fun e h2 w H2 ρ2 s2 k2 r2 q => ?_
    cases d <;> cases e <;> first | exact False.elim q | skip
    obtain ⟨c, q⟩ := Res.wp_guard q
    exact ⟨_, _, rI_int r1, rI_int r2, rg_ok c, fun z hz => q _ _ _ (s2.new hz) ((k1.trans k2).trans (Kp.new s2.hp hz)) (Rel.newL s2.hp hz (rg_rel _ _))⟩
  | false =>
    subst hx
    refine PE.w (pe_tupRgF hc hg hm rg (by rfl)) fun σV H Q ⟨σ, h, ρ, s, q⟩ => ?_
    refine tE_of s q fun d h1 v H1 ρ1 s1 k1 r1 q => ?_
    refine tE_of s1 q fun e h2 w H2 ρ2 s2 k2 r2 q => ?_
    cases d <;> cases e <;> first | exact False.elim q | skip
    obtain ⟨c, q⟩ := Res.wp_guard q
    exact ⟨_, _, rI_int r1, rI_int r2, rg_ok c, fun z o hz ho => q _ _ _ (s2.new hz) ((k1.trans k2).trans (Kp.new s2.hp hz)) (Rel.newT s2.hp hz ho (rg_rel _ _))⟩
/-! a dict of texts and numbers, as it is written -/
def dctK : List (Str × Int) → List (Option Expr) → List Expr → Prop
  | [], [], [] => True
  | (x, i) :: r, k :: ks, v :: vs => (∃ c1 p1 c2 p2, k = some (.Constant (.str x) c1 p1) ∧ v = .Constant (.int i) c2 p2) ∧ dctK r ks vs
  | _, _, _ => False
theorem dct_pps : ∀ {kvs : List (Str × Int)} {ks : List (Option Expr)} {vs : List Expr}, dctK kvs ks vs → PPs X pos ks vs (kvs.map fun p => (tC (.str p.1), tC (.int p.2))) ∧ ks.all (·.isSome) = true ∧ ks.length = kvs.length ∧ vs.length = kvs.length
  | [], [], [], _ => ⟨pps_nil, rfl, rfl, rfl⟩
  | (x, i) :: r, k :: ks, v :: vs, h => by
    obtain ⟨⟨c1, p1, c2, p2, rfl, rfl⟩, h⟩ := h
    obtain ⟨a, b, c, d⟩ := dct_pps h
    exact ⟨pps_cons pe_str pe_int a, by rw [List.all_cons, b] <;> rfl, by simp [c], by simp [d]⟩
theorem dct_pairs {σ : L2.St} {H : Hp} {Q : List (V × V) → Hp → Prop} : ∀ (kvs : List (Str × Int)), Q (kvs.map fun p => (V.str p.1, V.int p.2)) H → tPairs (kvs.map fun p => (tC (V.str p.1), tC (V.int p.2))) σ H Q := by
  intro kvs
  induction kvs generalizing Q with
  | nil => exact fun q => q
  | cons p r ih => exact fun q => ih q
theorem merge_new : ∀ (more acc : List (Key × V)), ((acc ++ more).map (·.1)).Nodup → mergeK acc more = acc ++ more
  | [], acc, _ => by rw [List.append_nil]; rfl
  | p :: r, acc, nd => by
    have e : putK acc p.1 p.2 = acc ++ [p] := by
      refine putK_new p.2 ?_
      cases k : valV acc p.1 with
      | none => rfl
      | some v =>
        exfalso
        have z := valV_any p.1 acc
        rw [k] at z
        obtain ⟨y, hy, e⟩ := List.any_eq_true.mp z
        have e := of_decide_eq_true e
        rw [List.map_append, List.map_cons, List.nodup_append] at nd
        exact nd.2.2 _ (List.mem_map.mpr ⟨y, hy, rfl⟩) _ List.mem_cons_self e
    show mergeK (putK acc p.1 p.2) r = _
    rw [e, merge_new r (acc ++ [p]) (by rw [List.append_assoc]; exact nd), List.append_assoc] <;> rfl
theorem kz_map : ∀ kvs : List (Str × Int), (kvs.map fun p => ((.inr p.1 : Key), V.int p.2)) = kz (kvs.map (·.1)) (kvs.map fun p => V.int p.2)
  | [] => rfl
  | p :: r => by rw [List.map_cons, kz_map r]; rfl
theorem dct_rel {K : PySem.W.Frag} {h : Hm} {ρ : List Addr} {H : Hp} : ∀ kvs : List (Str × Int), Rels K h ρ H (kvs.map fun p => D.int p.2) (kvs.map fun p => V.int p.2)
  | [] => .nil
  | p :: r => .cons (.int _) (dct_rel r)
theorem pe_dctD {kvs : List (Str × Int)} {ks : List (Option Expr)} {vs : List Expr} (hk : dctK kvs ks vs) (h0 : kvs ≠ []) (h15 : kvs.length ≤ 15) (nd : (kvs.map (·.1)).Nodup) : PE X (.Dict ks vs pos) (tE X.K fun _ h => .ok (.dict (kvs.map (·.1)) (kvs.map fun p => .int p.2)) h) := by
  obtain ⟨a, b, c, d⟩ := dct_pps (X := X) (pos := pos) hk
  refine PE.w (pe_disp a b (by rw [c, d]) (by intro z; rw [z] at c; exact h0 (List.length_eq_zero_iff.mp c.symm)) (by rw [c]; exact h15)) fun σV H Q ⟨σ, h, ρ, s, q⟩ => ?_
  intro p hp
  refine dct_pairs kvs ⟨upd_same, kvs.map fun p => (.inr p.1, .int p.2), by rw [List.map_map]; rfl, by rw [List.length_map]; exact h15, ?_⟩
  have em : mergeK [] (kvs.map fun p => ((.inr p.1 : Key), V.int p.2)) = kz (kvs.map (·.1)) (kvs.map fun p => V.int p.2) := by
    rw [merge_new _ []]
    · rw [List.nil_append, kz_map]
    · rw [List.nil_append, List.map_map]
      have : ((fun x : Key × V => x.1) ∘ fun p : Str × Int => ((.inr p.1 : Key), V.int p.2)) = Sum.inr ∘ fun p : Str × Int => p.1 := rfl
      rw [this, ← List.map_map]
      exact nd.map _ (fun x y hxy e => hxy (Sum.inr.inj e))
  rw [em, L2.upd_upd]
  have s2 := s.new (o := .dK (kz (kvs.map (·.1)) (kvs.map fun p => V.int p.2))) hp
  exact q _ _ _ s2 (Kp.new s.hp hp) (.dict ⟨.inl upd_same, s.hp.fresh hp, by rw [List.length_map, List.length_map]⟩ (dct_rel kvs))
theorem m2_of {o e f : Expr} {m : Str} {apos cpos : Pos} (hb : notCall o = true) (hl : (apos.endLine == cpos.line) = true) (ns : notStar e = true) (ns2 : notStar f = true) : M2 X o m apos e f cpos := by
  refine ⟨base_plain' hb, ?_, hl, ?_⟩
  · rw [stars_all (show noStars [e, f] = true by unfold noStars; rw [List.all_cons, List.all_cons, ns, ns2] <;> rfl)]
    rfl
  · rw [star_cons ns, star_cons ns2] <;> rfl
theorem pe_dgetD {o e f : Expr} {apos cpos : Pos} {fo fe ff : Sg → Hm → Res D} (hu : X.A.units + 64 < cLine) (ho : PE X o (tE X.K fo)) (he : PE X e (tE X.K fe)) (hf : PE X f (tE X.K ff)) (hb : notCall o = true) (hl : (apos.endLine == cpos.line) = true) (ns : notStar e = true) (ns2 : notStar f = true) :
    PE X (.Call (.Attribute o "get" apos) [e, f] [] cpos) (tE X.K fun σ h => (fo σ h).bind fun x h1 => .guard (isDictD x) ((fe σ h1).bind fun y h2 => (ff σ h2).bind fun z h3 => dgetD x y z h3)) := by
  refine PE.w (pe_dget2 (by omega) ho he hf (m2_of hb hl ns ns2)) fun σV H Q ⟨σ, h, ρ, s, q⟩ => ?_
  refine tE_of s q fun d h1 v H1 ρ1 s1 k1 r1 q => ?_
  obtain ⟨c, q⟩ := Res.wp_guard q
  obtain ⟨ks, ds, rfl⟩ : ∃ ks ds, d = .dict ks ds := by cases d <;> first | exact ⟨_, _, rfl⟩ | exact Bool.noConfusion c
  have r0 := r1
  cases r1 with
  | @dict a _ _ vs l rr =>
    refine ⟨a, rfl, .inl ⟨_, l.1⟩, ?_⟩
    refine tE_of s1 q fun d2 h2 w H2 ρ2 s2 k2 r2 q => ?_
    refine tE_of s2 q fun d3 h3 w3 H3 ρ3 s3 k3 r3 q => ?_
    obtain ⟨z, rfl⟩ : ∃ z, d2 = .str z := by cases d2 <;> first | exact ⟨_, rfl⟩ | exact False.elim q
    have r4 := r0.mono (k2.trans k3)
    cases r4 with
    | @dict _ _ _ vs' l' rr' =>
      obtain ⟨o, g, e1, e2⟩ := look_get (x := z) l' rr'
      rw [rI_str r2]
      refine ⟨o, g, q _ _ _ s3 ((k1.trans k2).trans k3) ?_⟩
      cases e : lookD ks ds z with
      | none =>
        rw [e] at e1
        dsimp only [Option.getD]
        cases o with
        | none => exact r3
        | some _ => cases e1
      | some d4 =>
        obtain ⟨v4, e4, rv⟩ := e2 d4 e
        rw [e4]
        exact rv
theorem pe_dixD {o e : Expr} {fo fe : Sg → Hm → Res D} (hu : X.A.units + 64 < cLine) (ho : PE X o (tE X.K fo)) (he : PE X e (tE X.K fe)) (hs : NoSl e) :
    PE X (.Subscript o e pos) (tE X.K fun σ h => (fo σ h).bind fun x h1 => (fe σ h1).bind fun y h2 => dixD x y h2) := by
  refine PE.w (pe_dget (by omega) ho he hs) fun σV H Q ⟨σ, h, ρ, s, q⟩ => ?_
  refine tE_of s q fun d h1 v H1 ρ1 s1 k1 r1 q => ?_
  refine tE_of s1 q fun d2 h2 w H2 ρ2 s2 k2 r2 q => ?_
  have r4 := r1.mono k2
  obtain ⟨ks, ds, rfl⟩ : ∃ ks ds, d = .dict ks ds := by cases d <;> first | exact ⟨_, _, rfl⟩ | exact False.elim q
  obtain ⟨z, rfl⟩ : ∃ z, d2 = .str z := by cases d2 <;> first | exact ⟨_, rfl⟩ | exact False.elim q
  cases r4 with
  | @dict a _ _ vs l rr =>
    obtain ⟨o, g, e1, e2⟩ := look_get (x := z) l rr
    have q : (match lookD ks ds z with
      | some d => Res.ok d h2
      | none => .stuck).wp _ := q
    cases e : lookD ks ds z with
    | none => rw [e] at q; exact False.elim q
    | some d4 =>
      rw [e] at q
      obtain ⟨v4, e4, rv⟩ := e2 d4 e
      subst e4
      rw [rI_str r2]
      exact ⟨a, v4, rfl, g, q _ _ _ s2 (k1.trans k2) rv⟩
theorem pe_fnvD {j : Nat} {x : Str} {p : Pos} {f : Addr} (hg : Gl X x) (hm : X.mg x = some (.ref f)) (hn : PySem.W.nsIn X.K mainGlobals x = some (some (.ref f))) (hdb : (x == ("__debug__" : Str)) = false) : PE X (.Name x p) (tE X.K fun _ h => .ok (.fn j x) h) :=
  PE.w (pe_glob hg hm (v := .ref f) rfl hdb) fun σV H Q ⟨σ, h, ρ, s, q⟩ => q _ _ _ s Kps.refl (.fn hn)
theorem pe_callvD {Γ : Gam} {i : Nat} {ops : List (Nat × Str)} {y : Str} {p : Pos} {e : Expr} {es : List Expr} {f : Sg → Hm → Res (List D)} (cs : ∀ j x den, (j, x) ∈ ops → Γ.fn j = some den → CallOk X x den) (hN : X.N[i]? = some y) (hv : Vis X.env.scope y) (hdb : (y == ("__debug__" : Str)) = false) (hcd : (y == ("__classdict__" : Str)) = false)
    (ha : PA X (e :: es) (tA X.K f)) (ns : noStars (e :: es) = true) :
    PE X (.Call (.Name y p) (e :: es) [] pos) (tE X.K fun σ h => match σ[i]? with
    | some (some (.fn j x)) => .guard (decide ((j, x) ∈ ops)) ((f σ h).bind fun ds h1 => match Γ.fn j with
      | some den => den ds h1
      | none => .stuck)
    | _ => .stuck) := by
  have st : starEach (e :: es) X.env = (false, eval e X.env) :: starEach es X.env := star_cons (by
    unfold noStars at ns
    rw [List.all_cons, Bool.and_eq_true] at ns
    exact ns.1)
  have sn : (backTo pos (starEach es X.env)).any (·.1) = false := stars_none (by
    unfold noStars at ns ⊢
    rw [List.all_cons, Bool.and_eq_true] at ns
    exact ns.2)
  refine ⟨fun pins s σV H Q I ⟨σ, h, ρ, sr, q⟩ => ?_⟩
  dsimp only at q
  split at q
  · rename_i j x ei
    obtain ⟨c, q⟩ := Res.wp_guard q
    cases ed : Γ.fn j with
    | none =>
      rw [ed] at q
      cases ef : f σ h with
      | stuck => rw [ef] at q; exact False.elim q
      | ok ds h1 => rw [ef] at q; exact False.elim q
    | some den =>
      rw [ed] at q
      obtain ⟨g, fd, ps, k, F, hr, hm, hk, hb, hn, hns⟩ := (cs j x den (of_decide_eq_true c) ed).ex
      obtain ⟨v, e1, rv⟩ := sr.sl.get i _ ei
      have ev : v = .ref g := by
        cases rv with
        | fn z =>
          rw [hns] at z
          cases z
          rfl
      subst ev
      refine (pe_callL (p := p) (pos := pos) F hr hN hv hk hb .nil pass0 ha hdb hcd st sn).run pins s σV H Q I ⟨e1, ?_⟩
      refine tA_of sr q fun ds h1 vs H1 ρ1 s1 k1 r1 q => ?_
      rw [List.append_nil]
      exact sp_of hn s1 k1 r1 q
  · exact False.elim q

/-! ### targets -/
def tgIx : Tg → List Nat
  | .v i => [i]
  | .tup is => is
def tG (K : PySem.W.Frag) (tg : Tg) : TG := fun v σV H Q => ∃ σ h ρ d σ', SR K σ h ρ σV H ∧ Rel K h ρ H d v ∧ asgD tg d σ = some σ' ∧ ∀ σV', SR K σ' h ρ σV' H → (∀ vs : List Nat, (∀ i ∈ tgIx tg, i ∈ vs) → L2.wipe σV' vs = L2.wipe σV vs) → Q σV' H
theorem PG.w {t t' : TG} (p : PG X tg t) (w : ∀ v σ H Q, t' v σ H Q → t v σ H Q) : PG X tg t' := ⟨fun pins s σ H v u Q I r q => p.run pins s σ H v u Q I r (w v σ H Q q)⟩
theorem PGs.w {tgs : List Expr} {t t' : TGs} (p : PGs X tgs t) (w : ∀ v σ H Q, t' v σ H Q → t v σ H Q) : PGs X tgs t' := ⟨fun pins s σ H v u Q I r q => p.run pins s σ H v u Q I r (w v σ H Q q)⟩
theorem wipe_set {i : Nat} {x : Option V} {σV : L2.St} : ∀ {vs : List Nat}, i ∈ vs → L2.wipe (σV.set i x) vs = L2.wipe σV vs
  | v :: vs, h => by
    unfold L2.wipe
    by_cases hv : i ∈ vs
    · rw [wipe_set hv]
    · have e : i = v := by
        rcases List.mem_cons.mp h with e | e
        · exact e
        · exact absurd e hv
      subst e
      have key : ∀ vs : List Nat, i ∉ vs → (L2.wipe (σV.set i x) vs).set i none = (L2.wipe σV vs).set i none := by
        intro vs
        induction vs with
        | nil => intro _; unfold L2.wipe; exact List.set_set ..
        | cons w ws ih =>
          intro hn
          unfold L2.wipe
          have h1 : i ≠ w := fun e => hn (by rw [e]; exact List.mem_cons_self)
          have h2 : i ∉ ws := fun e => hn (List.mem_cons_of_mem _ e)
          rw [List.set_comm _ _ (Ne.symm h1), ih h2, List.set_comm _ _ h1]
      exact key vs hv
theorem pg_vD {i : Nat} {x : Str} (hN : X.N.Nodup) (hi : X.N[i]? = some x) (hx : Loc X.env.scope x) (hf : X.fn x = true ∨ X.env.scope.names.lookup x = some .local) : PG X (.Name x pos) (tG X.K (.v i)) := by
  refine PG.w (pg_name hN hi hx hf) fun v σV H Q ⟨σ, h, ρ, d, σ', s, r, e, q⟩ => ?_
  have e' : some (σ.set i (some d)) = some σ' := e
  cases e'
  exact q _ ⟨s.hp, s.sl.set r⟩ fun vs hv => wipe_set (hv i (by simp [tgIx]))
def tGs (K : PySem.W.Frag) (is : List Nat) : TGs := fun vs σV H Q => ∃ σ h ρ ds σ', SR K σ h ρ σV H ∧ Rels K h ρ H ds vs ∧ setAll is ds σ = some σ' ∧ ∀ σV', SR K σ' h ρ σV' H → (∀ vs : List Nat, (∀ i ∈ is, i ∈ vs) → L2.wipe σV' vs = L2.wipe σV vs) → Q σV' H
/-- names as targets -/
inductive NmT (X : Cx) : List Nat → List Expr → Prop where
  | nil : NmT X [] []
  | cons {i : Nat} {x : Str} {pos : Pos} {is : List Nat} {es : List Expr} : X.N[i]? = some x → Loc X.env.scope x → (X.fn x = true ∨ X.env.scope.names.lookup x = some .local) → NmT X is es → NmT X (i :: is) (.Name x pos :: es)
theorem pgs_D (hN : X.N.Nodup) : ∀ {is : List Nat} {es : List Expr}, NmT X is es → PGs X es (tGs X.K is)
  | _, _, .nil => PGs.w pgs_nil fun vs σV H Q ⟨σ, h, ρ, ds, σ', s, r, e, q⟩ => by
    cases ds with
    | nil =>
      cases r
      cases e
      exact ⟨rfl, q _ s fun _ _ => rfl⟩
    | cons a b => cases e
  | _, _, .cons (i := i) (x := x) (pos := pos) (is := is) (es := es) h1 h2 h3 ht => PGs.w (pgs_cons (pg_vD (pos := pos) hN h1 h2 h3) (pgs_D hN ht) (by rfl)) fun vs σV H Q ⟨σ, h, ρ, ds, σ', s, r, e, q⟩ => by
    cases ds with
    | nil => cases e
    | cons d ds =>
      cases r with
      | cons a b =>
        refine ⟨_, _, rfl, σ, h, ρ, d, _, s, a, rfl, fun σV1 s1 w1 => ⟨_, h, ρ, ds, σ', s1, b, e, fun σV2 s2 w2 => q σV2 s2 fun vs hv => ?_⟩⟩
        rw [w2 vs fun j hj => hv j (List.mem_cons_of_mem _ hj), w1 vs fun j hj => hv j (by
          have e : j = i := by simpa [tgIx] using hj
          rw [e]
          exact List.mem_cons_self)]
theorem NmT.len : ∀ {is : List Nat} {es : List Expr}, NmT X is es → (assignEach es X.env).length = is.length ∧ (assignEach es X.env).findIdx? (·.1) = none
  | _, _, .nil => ⟨rfl, rfl⟩
  | _, _, .cons (x := x) (pos := pos) (es := es) _ _ _ ht => by
    obtain ⟨a, b⟩ := NmT.len ht
    refine ⟨?_, ?_⟩
    · show (assignEach es X.env).length + 1 = _
      rw [a]; rfl
    · show List.findIdx? (·.1) ((false, assign (.Name x pos) X.env) :: assignEach es X.env) = none
      rw [List.findIdx?_cons]
      simp [b]
theorem setAll_len : ∀ {is : List Nat} {ds : List D} {σ σ' : Sg}, setAll is ds σ = some σ' → ds.length = is.length
  | [], [], _, _, _ => rfl
  | i :: is, d :: ds, _, _, e => by
    have := setAll_len (is := is) (ds := ds) e
    simp [this]
  | [], _ :: _, _, _, e => by cases e
  | _ :: _, [], _, _, e => by cases e
theorem pg_or {t t' : TG} (p : PG X tg t) (p' : PG X tg t') : PG X tg (fun v σ H Q => t v σ H Q ∨ t' v σ H Q) := ⟨fun pins s σ H v u Q I r q => by
  rcases q with q | q
  · exact p.run pins s σ H v u Q I r q
  · exact p'.run pins s σ H v u Q I r q⟩
theorem pg_tupD {is : List Nat} {es : List Expr} {k : Nat} (hN : X.N.Nodup) (hc : X.calm = true) (ht : NmT X is es) : PG X (.Tuple es k pos) (tG X.K (.tup is)) := by
  obtain ⟨l1, l2⟩ := ht.len
  refine PG.w (pg_or (pg_tup hc (pgs_D hN ht) l1 l2) (pg_unl hc (pgs_D hN ht) l1 l2)) fun v σV H Q ⟨σ, h, ρ, d, σ', s, r, e, q⟩ => ?_
  cases r with
  | @tup a xs vs l rr => exact .inl ⟨a, vs, rfl, l.sq, by rw [← rr.length]; exact setAll_len e, σ, h, ρ, xs, σ', s, rr, e, q⟩
  | @wtup a xs vs l rr => exact .inl ⟨a, vs, rfl, l.sq, by rw [← rr.length]; exact setAll_len e, σ, h, ρ, xs, σ', s, rr, e, q⟩
  | @lst a xs vs l rr => exact .inr ⟨a, vs, rfl, l.sq, by rw [← rr.length]; exact setAll_len e, σ, h, ρ, xs, σ', s, rr, e, q⟩
  | _ => cases e
end

/-! Mini 10: comprehensions. -/
section
variable {K : PySem.W.Frag}
mutual
theorem RD.isBelow {H : Hp} {ρ : List Addr} {M : Addr → Prop} {n : Nat} (hn : ρ.length = n) : ∀ {d : D} {v : V}, RD K H ρ M d v → belowD n d = true
  | .non, _, _ => rfl
  | .bl _, _, _ => rfl
  | .int _, _, _ => rfl
  | .str _, _, _ => rfl
  | .tup xs, _, h => by
    cases h with
    | tup l r => exact RDs.isBelow hn r
  | .lst xs, _, h => by
    cases h with
    | lst l r => exact RDs.isBelow hn r
  | .wtup xs, _, h => by
    cases h with
    | wtup l r => exact RDs.isBelow hn r
  | .dict ks xs, _, h => by
    cases h with
    | dict l r => exact RDs.isBelow hn r
  | .fn _ _, _, _ => rfl
  | .ref k, _, h => by
    cases h with
    | ref e => exact decide_eq_true (by rw [← hn]; exact (List.getElem?_eq_some_iff.mp e).1)
theorem RDs.isBelow {H : Hp} {ρ : List Addr} {M : Addr → Prop} {n : Nat} (hn : ρ.length = n) : ∀ {ds : List D} {vs : List V}, RDs K H ρ M ds vs → belowDs n ds = true
  | [], _, _ => rfl
  | d :: ds, _, h => by
    cases h with
    | cons a b =>
      unfold belowDs
      rw [RD.isBelow hn a, RDs.isBelow hn b]
      rfl
end
mutual
theorem RD.down {H : Hp} {ρ ρ' : List Addr} {M M' : Addr → Prop} {n : Nat} (hρ : ∀ k a, k < n → ρ[k]? = some a → ρ'[k]? = some a) (hM : ∀ a, M' a → M a) : ∀ {d : D} {v : V}, belowD n d = true → RD K H ρ M d v → RD K H ρ' M' d v
  | .non, _, _, h => by cases h; exact .non
  | .bl _, _, _, h => by cases h; exact .bl _
  | .int _, _, _, h => by cases h; exact .int _
  | .str _, _, _, h => by cases h; exact .str _
  | .tup xs, _, b, h => by
    cases h with
    | tup l r =>
      refine .tup ?_ (RDs.down hρ hM b r)
      rcases l with ⟨o, l1, l2, l3⟩ | l
      · exact .inl ⟨o, l1, l2, fun m => l3 (hM _ m)⟩
      · exact .inr l
  | .lst xs, _, b, h => by
    cases h with
    | lst l r =>
      refine .lst ?_ (RDs.down hρ hM b r)
      rcases l with ⟨l1, l3⟩ | l
      · exact .inl ⟨l1, fun m => l3 (hM _ m)⟩
      · exact .inr l
  | .wtup xs, _, b, h => by
    cases h with
    | wtup l r => exact .wtup ⟨l.1, fun m => l.2 (hM _ m)⟩ (RDs.down hρ hM b r)
  | .dict ks xs, _, b, h => by
    cases h with
    | dict l r => exact .dict ⟨l.1, fun m => l.2.1 (hM _ m), l.2.2⟩ (RDs.down hρ hM b r)
  | .fn j x, _, _, h => by
    cases h with
    | fn e => exact .fn e
  | .ref k, _, b, h => by
    cases h with
    | ref e => exact .ref (hρ k _ (of_decide_eq_true b) e)
theorem RDs.down {H : Hp} {ρ ρ' : List Addr} {M M' : Addr → Prop} {n : Nat} (hρ : ∀ k a, k < n → ρ[k]? = some a → ρ'[k]? = some a) (hM : ∀ a, M' a → M a) : ∀ {ds : List D} {vs : List V}, belowDs n ds = true → RDs K H ρ M ds vs → RDs K H ρ' M' ds vs
  | [], _, _, h => by cases h; exact .nil
  | d :: ds, _, b, h => by
    unfold belowDs at b
    rw [Bool.and_eq_true] at b
    cases h with
    | cons x y => exact .cons (RD.down hρ hM b.1 x) (RDs.down hρ hM b.2 y)
end
/-- things laid behind are forgotten: the first ones stand as they stood -/
theorem HR.back {h h2 : Hm} {ρ ρ2 : List Addr} {H H2 : Hp} (r : HR K h ρ H) (r2 : HR K h2 ρ2 H2) (k : Kp h ρ H h2 ρ2 H2) (e : h2.take h.length = h) :
    HR K h ρ H2 ∧ Kp h ρ H h ρ H2 ∧ (∀ a, Mu ρ h a → Mu ρ2 h2 a) ∧ (∀ (i : Nat) (a : Addr), i < h.length → ρ2[i]? = some a → ρ[i]? = some a) := by
  have hget : ∀ (n : Nat) (o : MO), h[n]? = some o → h2[n]? = some o := fun n o q => by
    rw [← e] at q
    have hn : n < (h2.take h.length).length := (List.getElem?_eq_some_iff.mp q).1
    rw [List.length_take] at hn
    rw [List.getElem?_take_of_lt (by omega)] at q
    exact q
  have hM : ∀ a, Mu ρ h a → Mu ρ2 h2 a := fun a ⟨n, o, q1, q2, q3⟩ => ⟨n, o, k.ref n a q1, hget n o q2, q3⟩
  have hρ : ∀ (i : Nat) (a : Addr), i < h.length → ρ2[i]? = some a → ρ[i]? = some a := fun i a hi q => by
    obtain ⟨b, hb⟩ : ∃ b, ρ[i]? = some b := ⟨ρ[i]'(by rw [r.len]; exact hi), by simp [r.len, hi]⟩
    have := k.ref i b hb
    rw [q] at this
    cases this
    exact hb
  refine ⟨⟨r.len, r.nd, fun n o a q1 q2 => ?_⟩, ⟨fun a o q m => ?_, fun _ _ q => q⟩, hM, hρ⟩
  · have z := r2.obj n o a (hget n o q1) (k.ref n a q2)
    have z1 := r.obj n o a q1 q2
    cases o with
    | gone => exact z
    | lst xs =>
      obtain ⟨vs, z2, z3⟩ := z
      obtain ⟨vs1, _, z4⟩ := z1
      exact ⟨vs, z2, RDs.down hρ hM (RDs.isBelow r.len z4) z3⟩
  · obtain ⟨a1, a2⟩ := k.obj a o q m
    exact ⟨a1, m⟩
theorem wipe_wipe (σ : L2.St) : ∀ vs : List Nat, L2.wipe (L2.wipe σ vs) vs = L2.wipe σ vs := by
  intro vs
  apply List.ext_getElem?
  intro i
  by_cases hi : i ∈ vs
  · have key : ∀ (vs : List Nat) (τ : L2.St), i ∈ vs → (L2.wipe τ vs)[i]? = if i < τ.length then some none else none := by
      intro vs
      induction vs with
      | nil => intro τ h; cases h
      | cons v vs ih =>
        intro τ h
        unfold L2.wipe
        rw [List.getElem?_set]
        by_cases hv : v = i
        · subst hv
          rw [if_pos rfl, L2.wipe_length]
        · rw [if_neg hv]
          rcases List.mem_cons.mp h with e | e
          · exact absurd e.symm hv
          · exact ih τ e
    rw [key vs _ hi, key vs _ hi, L2.wipe_length]
  · rw [wipe_out hi]
end
section
variable {X : Cx} {pos : Pos} {tg : Expr}
theorem pts_nilD : PTs X [] (tT X.K fun _ h => .ok true h) := ⟨fun pins s σ H Q I ⟨σD, h, ρ, sr, q⟩ => pts_nil.run pins s σ H Q I (q H ρ sr Kps.refl)⟩
theorem tLcD {K : PySem.W.Frag} {fi : Sg → Hm → Res (List D)} {ft : Sg → Hm → Res Bool} {fe : Sg → Hm → Res D} {tgD : Tg} {mu : Bool} {own : List (Str × Nat)} (hown : ∀ i ∈ tgIx tgD, i ∈ own.map (·.2)) {σV : L2.St} {H : Hp} {Q : VK}
    (hq : tE K (fun σ h => (fi σ h).bind fun src h1 =>
    (compLoop (fun x h2 => match asgD tgD x (wipeD σ (own.map (·.2))) with
      | some σ' => (ft σ' h2).bind fun t h3 => match t with
        | true => (fe σ' h3).bind fun y h4 => .ok (some y) h4
        | false => .ok none h3
      | none => .stuck) h1.length src (h1 ++ [.lst []])).bind fun _ h2 => match listOf? h2 h1.length with
        | some ys => match mu with
          | true => .ok (.ref h1.length) h2
          | false => .ok (.lst ys) (endC h1 h2 ys)
        | none => .stuck) σV H Q) : tLc (tI K fi) (tG K tgD) (tT K ft) (tE K fe) (own.map (·.2)) σV H Q := by
  obtain ⟨σ, h, ρ, s, q⟩ := hq
  refine ⟨σ, h, ρ, s, Res.wp_mono (Res.wp_bind q) fun src h1 q J H1 ρ1 s1 k1 it La hD => ?_⟩
  -- the new list is shared while it grows
  have sP : SR K σ (h1 ++ [.lst []]) (ρ1 ++ [La]) σV (upd H1 La (.lst [])) := s1.push hD .nil
  have kP : Kp h1 ρ1 H1 (h1 ++ [.lst []]) (ρ1 ++ [La]) (upd H1 La (.lst [])) := Kp.push s1.hp hD
  have eD : (ρ1 ++ [La])[h1.length]? = some La := by rw [← s1.hp.len]; simp
  generalize hf : (fun (x : D) (h2 : Hm) => match asgD tgD x (wipeD σ (own.map (·.2))) with
      | some σ' => (ft σ' h2).bind fun t h3 => match t with
        | true => (fe σ' h3).bind fun y h4 => Res.ok (some y) h4
        | false => Res.ok none h3
      | none => Res.stuck) = f at q
  refine ⟨fun i m H2 => ∃ h2 ρ2, HR K h2 ρ2 H2 ∧ Kp (h1 ++ [.lst []]) (ρ1 ++ [La]) (upd H1 La (.lst [])) h2 ρ2 H2 ∧ m = src.length - i ∧ i ≤ src.length ∧
      ((compLoop f h1.length (src.drop i) h2).bind fun _ h2 => match listOf? h2 h1.length with
        | some ys => match mu with
          | true => Res.ok (D.ref h1.length) h2
          | false => Res.ok (D.lst ys) (endC h1 h2 ys)
        | none => Res.stuck).wp fun d h' => ∀ v H' ρ', SR K σ h' ρ' σV H' → Kp h ρ H h' ρ' H' → Rel K h' ρ' H' d v → Q v H',
    ⟨src.length, _, _, sP.hp, Kps.refl, by simp, Nat.zero_le _, by rw [List.drop_zero]; exact q⟩, ?_⟩
  rintro i m H2 ⟨h2, ρ2, r2, k2, rfl, hi, q⟩
  have sl2 : SlR K H2 ρ2 (Mu ρ2 h2) σ σV := sP.sl.mono k2
  have eD2 : ρ2[h1.length]? = some La := k2.ref _ _ eD
  obtain ⟨it1, it2⟩ := it h2 ρ2 H2 r2 (kP.trans k2)
  by_cases hlt : i < src.length
  · -- one turn
    have ex : src[i]? = some src[i] := List.getElem?_eq_getElem hlt
    rw [List.drop_eq_getElem_cons hlt] at q
    obtain ⟨go, yl⟩ := it1 i _ ex
    refine .inr ⟨go, _, fun H' n => ⟨src.length - (i + 1), by omega, n⟩, fun x H3 y => ?_⟩
    obtain ⟨r3, k3, rx⟩ := yl x H3 y
    unfold compLoop at q
    have q := Res.wp_bind (Res.wp_bind q)
    cases ea : asgD tgD src[i] (wipeD σ (own.map (·.2))) with
    | none =>
      rw [← hf] at q
      dsimp only at q
      rw [ea] at q
      exact False.elim q
    | some σ' =>
      have s3 : SR K (wipeD σ (own.map (·.2))) h2 ρ2 (L2.wipe σV (own.map (·.2))) H3 := ⟨r3, (sl2.mono k3).wipe _⟩
      refine ⟨_, h2, ρ2, src[i], σ', s3, rx, ea, fun σV' s4 w4 => ⟨by rw [w4 _ hown, wipe_wipe], ?_⟩⟩
      have ef : f src[i] h2 = (ft σ' h2).bind fun t h3 => match t with
        | true => (fe σ' h3).bind fun y h4 => Res.ok (some y) h4
        | false => Res.ok none h3 := by
          rw [← hf]
          dsimp only
          rw [ea]
      rw [ef] at q
      refine tT_of s4 q fun b h4 H4 ρ4 s5 k5 q => ?_
      have k4 := (k2.trans k3).trans k5
      cases b with
      | false =>
        refine iteF ?_
        exact ⟨h4, ρ4, s5.hp, k4, rfl, hlt, (by
          have q : ((compLoop f h1.length (src.drop (i + 1)) h4).bind _).wp _ := Res.bind_wp_of q
          exact q)⟩
      | true =>
        refine iteT ?_
        refine tE_of s5 q fun d h5 v H5 ρ5 s6 k6 r6 q => ?_
        have q : ((match listOf? h5 h1.length with
          | some acc => Res.guard (decide (acc.length < LIM)) (compLoop f h1.length (src.drop (i + 1)) (h5.set h1.length (.lst (acc ++ [d]))))
          | none => Res.stuck)).wp _ := q
        cases el : listOf? h5 h1.length with
        | none => rw [el] at q; exact False.elim q
        | some acc =>
          rw [el] at q
          obtain ⟨c, q⟩ := Res.wp_guard q
          have eD5 : ρ5[h1.length]? = some La := k6.ref _ _ (k4.ref _ _ eD)
          obtain ⟨vs, e5, rs5⟩ := s6.hp.ref eD5 el
          have eh := listOf_eq el
          refine ⟨vs, e5, by rw [← rs5.length]; exact lt_sz c, ?_⟩
          exact ⟨_, ρ5, s6.hp.write eD5 eh (rs5.append (.cons r6 .nil)), (k4.trans k6).trans (Kp.write eD5 eh), rfl, hlt, Res.bind_wp_of q⟩
  · have e : i = src.length := by omega
    subst e
    refine .inl ⟨it2, ?_⟩
    rw [List.drop_length] at q
    have q : (match listOf? h2 h1.length with
        | some ys => match mu with
          | true => Res.ok (D.ref h1.length) h2
          | false => Res.ok (D.lst ys) (endC h1 h2 ys)
        | none => Res.stuck).wp _ := q
    cases el : listOf? h2 h1.length with
    | none => rw [el] at q; exact False.elim q
    | some ys =>
      rw [el] at q
      cases mu with
      | true => exact q _ _ _ ⟨r2, sl2⟩ (k1.trans (kP.trans k2)) (.ref eD2)
      | false =>
        have q : (Res.ok (D.lst ys) (endC h1 h2 ys)).wp _ := q
        have eh := listOf_eq el
        have rc := r2.close eD2 eh
        have kc : Kp h2 ρ2 H2 (h2.set h1.length .gone) ρ2 H2 := Kp.close eD2 eh
        unfold endC at q
        split at q
        · rename_i hcond
          obtain ⟨⟨c1, c2⟩, c3⟩ := hcond
          obtain ⟨b1, b2, b3, b4⟩ := HR.back s1.hp r2 (kP.trans k2) c1
          obtain ⟨vs, e5, rs5⟩ := r2.ref eD2 el
          have nM : ¬ Mu ρ1 h1 La := s1.hp.fresh hD
          exact q _ _ _ (s1.of b1 b2) (k1.trans b2) (.lst (.inl ⟨.inl e5, nM⟩) (RDs.down b4 b3 c3 rs5))
        · exact q _ _ _ ⟨rc.1, sl2.mono kc⟩ (k1.trans ((kP.trans k2).trans kc)) rc.2
end

/-! Mini 11: whether a piece of the text is what the small language says. -/

/-! ### looking at a piece of syntax -/
def gNm : Expr → Option Str | .Name x _ => some x | _ => none
def gBin : Expr → Option (Expr × Operator × Expr) | .BinOp a o b _ => some (a, o, b) | _ => none
def gUn : Expr → Option (UnaryOp × Expr) | .UnaryOp o a _ => some (o, a) | _ => none
def gCmp : Expr → Option (Expr × List CmpOp × List Expr) | .Compare a os bs _ => some (a, os, bs) | _ => none
def gBool : Expr → Option (BoolOp × List Expr × Pos) | .BoolOp o vs p => some (o, vs, p) | _ => none
def gIf : Expr → Option (Expr × Expr × Expr) | .IfExp c a b _ => some (c, a, b) | _ => none
def gTup : Expr → Option (List Expr) | .Tuple es _ _ => some es | _ => none
def gLst : Expr → Option (List Expr) | .List es _ => some es | _ => none
def gSub : Expr → Option (Expr × Expr) | .Subscript a b _ => some (a, b) | _ => none
def gSlc : Expr → Option (Option Expr × Option Expr) | .Slice a b none _ => some (a, b) | _ => none
def gCst : Expr → Option Const | .Constant c _ _ => some c | _ => none
def gCall : Expr → Option (Str × List Expr × List Keyword) | .Call (.Name x _) es ks _ => some (x, es, ks) | _ => none
def gMeth : Expr → Option (Expr × Str × List Expr × Pos × Pos) | .Call (.Attribute o m ap) es [] cp => some (o, m, es, ap, cp) | _ => none
def gLc : Expr → Option (Expr × Expr × Expr × List Expr × Scope) | .ListComp elt [⟨tg, it, ifs, 0⟩] sc _ => some (elt, tg, it, ifs, sc) | _ => none
def gRev : Expr → Option Expr | .Subscript e (.Slice none none (some (.UnaryOp .USub (.Constant (.int 1) _ _) _)) _) _ => some e | _ => none
theorem gRev_eq {e x : Expr} (h : gRev e = some x) : ∃ k p1 p2 p3 p, e = .Subscript x (.Slice none none (some (.UnaryOp .USub (.Constant (.int 1) k p1) p2)) p3) p := by
  unfold gRev at h
  split at h
  · cases h; exact ⟨_, _, _, _, _, rfl⟩
  · cases h
theorem gCst_eq' {e : Expr} {c : Const} (h : gCst e = some c) : ∃ k p, e = .Constant c k p := by
  cases e <;> first | cases h | skip
  exact ⟨_, _, rfl⟩
def gNest : Expr → Option (Str × Str × List Expr) | .Call (.Name x _) [.Call (.Name y _) as [] _] [] _ => some (x, y, as) | _ => none
def gDct : Expr → Option (List (Option Expr) × List Expr) | .Dict ks vs _ => some (ks, vs) | _ => none
theorem gNest_eq {e : Expr} {x y : Str} {as : List Expr} (h : gNest e = some (x, y, as)) : ∃ p p2 q pos, e = .Call (.Name x p) [.Call (.Name y p2) as [] q] [] pos := by
  unfold gNest at h
  split at h
  · cases h; exact ⟨_, _, _, _, rfl⟩
  · cases h
theorem gDct_eq {e : Expr} {ks : List (Option Expr)} {vs : List Expr} (h : gDct e = some (ks, vs)) : ∃ p, e = .Dict ks vs p := by
  cases e <;> first | cases h | skip
  exact ⟨_, rfl⟩
def dctB : List (Str × Int) → List (Option Expr) → List Expr → Bool
  | [], [], [] => true
  | (x, i) :: r, k :: ks, v :: vs => (match k with
    | some k => (match gCst k with | some (.str d) => decide (x = d) | _ => false)
    | none => false) && (match gCst v with | some (.int d) => decide (i = d) | _ => false) && dctB r ks vs
  | _, _, _ => false
theorem dctB_ok : ∀ {kvs : List (Str × Int)} {ks : List (Option Expr)} {vs : List Expr}, dctB kvs ks vs = true → dctK kvs ks vs
  | [], [], [], _ => trivial
  | (x, i) :: r, k :: ks, v :: vs, h => by
    unfold dctB at h
    rw [Bool.and_eq_true, Bool.and_eq_true] at h
    obtain ⟨⟨h1, h2⟩, h3⟩ := h
    refine ⟨?_, dctB_ok h3⟩
    cases k with
    | none => cases h1
    | some k =>
      dsimp only at h1
      split at h1
      · rename_i d e1
        split at h2
        · rename_i d2 e2
          obtain ⟨c1, p1, rfl⟩ := gCst_eq' e1
          obtain ⟨c2, p2, rfl⟩ := gCst_eq' e2
          have z1 := of_decide_eq_true h1
          have z2 := of_decide_eq_true h2
          subst z1 z2
          exact ⟨_, _, _, _, rfl, rfl⟩
        · cases h2
      · cases h1
  | [], [], _ :: _, h => by cases h
  | [], _ :: _, _, h => by cases h
  | _ :: _, [], _, h => by cases h
  | _ :: _, _ :: _, [], h => by cases h
theorem gNm_eq {e : Expr} {x : Str} (h : gNm e = some x) : ∃ p, e = .Name x p := by
  cases e <;> first | cases h | skip
  exact ⟨_, rfl⟩
theorem gBin_eq {e : Expr} {a b : Expr} {o : Operator} (h : gBin e = some (a, o, b)) : ∃ p, e = .BinOp a o b p := by
  cases e <;> first | cases h | skip
  exact ⟨_, rfl⟩
theorem gUn_eq {e a : Expr} {o : UnaryOp} (h : gUn e = some (o, a)) : ∃ p, e = .UnaryOp o a p := by
  cases e <;> first | cases h | skip
  exact ⟨_, rfl⟩
theorem gCmp_eq {e a : Expr} {os : List CmpOp} {bs : List Expr} (h : gCmp e = some (a, os, bs)) : ∃ p, e = .Compare a os bs p := by
  cases e <;> first | cases h | skip
  exact ⟨_, rfl⟩
theorem gBool_eq {e : Expr} {o : BoolOp} {vs : List Expr} {p : Pos} (h : gBool e = some (o, vs, p)) : e = .BoolOp o vs p := by
  cases e <;> first | cases h | skip
  rfl
theorem gIf_eq {e c a b : Expr} (h : gIf e = some (c, a, b)) : ∃ p, e = .IfExp c a b p := by
  cases e <;> first | cases h | skip
  exact ⟨_, rfl⟩
theorem gTup_eq {e : Expr} {es : List Expr} (h : gTup e = some es) : ∃ k p, e = .Tuple es k p := by
  cases e <;> first | cases h | skip
  exact ⟨_, _, rfl⟩
theorem gLst_eq {e : Expr} {es : List Expr} (h : gLst e = some es) : ∃ p, e = .List es p := by
  cases e <;> first | cases h | skip
  exact ⟨_, rfl⟩
theorem gSub_eq {e a b : Expr} (h : gSub e = some (a, b)) : ∃ p, e = .Subscript a b p := by
  cases e <;> first | cases h | skip
  exact ⟨_, rfl⟩
theorem gSlc_eq {e : Expr} {a b : Option Expr} (h : gSlc e = some (a, b)) : ∃ p, e = .Slice a b none p := by
  cases e <;> first | cases h | skip
  rename_i l u st p
  cases st with
  | none => cases h; exact ⟨_, rfl⟩
  | some z => cases h
theorem gCst_eq {e : Expr} {c : Const} (h : gCst e = some c) : ∃ k p, e = .Constant c k p := by
  cases e <;> first | cases h | skip
  exact ⟨_, _, rfl⟩
theorem gCall_eq {e : Expr} {x : Str} {es : List Expr} {ks : List Keyword} (h : gCall e = some (x, es, ks)) : ∃ p q, e = .Call (.Name x p) es ks q := by
  cases e <;> first | cases h | skip
  rename_i f es ks p
  cases f <;> first | cases h | skip
  exact ⟨_, _, rfl⟩
theorem gMeth_eq {e o : Expr} {m : Str} {es : List Expr} {ap cp : Pos} (h : gMeth e = some (o, m, es, ap, cp)) : e = .Call (.Attribute o m ap) es [] cp := by
  cases e <;> first | cases h | skip
  rename_i f es ks p
  cases f <;> first | cases h | skip
  cases ks <;> cases h
  rfl
theorem gLc_eq {e elt tg it : Expr} {ifs : List Expr} {sc : Scope} (h : gLc e = some (elt, tg, it, ifs, sc)) : ∃ p, e = .ListComp elt [⟨tg, it, ifs, 0⟩] sc p := by
  cases e <;> first | cases h | skip
  rename_i elt gs sc p
  match gs, h with
  | [⟨tg, it, ifs, .ofNat 0⟩], h => cases h; exact ⟨_, rfl⟩

/-! ### where one stands -/
structure Ctx where
  N : List Str
  names : List (Str × NameKind)
  own : Option (List (Str × NameKind))
  fnm : List Str
  glm : List Str
  kw : List (Nat × Nat × List Str × List Nat)
  /-- whether repr may stand here (the law alone) -/
  rp : Bool
def bNames : List Str := ["len", "abs", "int", "tuple", "list", "all", "any", "sum", "max", "min", "str", "bool", "isinstance", "range", "sorted", "reversed", "enumerate", "zip", "set", "repr"]
structure Good (c : Ctx) (Γ : Gam) (X : Cx) : Prop where
  N : X.N = c.N
  nd : c.N.Nodup
  names : X.env.scope.names = c.names
  kind : X.env.scope.kind = .function
  calm : X.calm = true
  fnn : ∀ x, X.fn x = (match c.own with | none => true | some l => l.lookup x == some .cell)
  units : X.A.units + 64 < cLine
  gd : c.rp = true → X.A.guards = some []
  bi : ∀ x ∈ bNames, X.mg x = none
  fn : ∀ i den, Γ.fn i = some den → ∃ x, c.fnm[i]? = some x ∧ CallOk X x den
  kw : ∀ i n ks perm den, (i, n, ks, perm) ∈ c.kw → Γ.fn i = some den → ∃ x, c.fnm[i]? = some x ∧ CallKOk X x den n ks perm
  gl : ∀ g d, Γ.gl g = some d → ∃ x u v, c.glm[g]? = some x ∧ X.mg x = some u ∧ RelV v u ∧ ∀ H ρ M, RD X.K H ρ M d v
def isGl (c : Ctx) (x : Str) : Bool := decide (c.names.lookup x = some .globalImplicit) && !(x == ("__debug__" : Str))
def isVis (c : Ctx) (x : Str) : Bool := (match c.names.lookup x with | some .local => true | some .cell => true | some .free => true | _ => false) && !(x == ("__debug__" : Str)) && !(x == ("__classdict__" : Str))
def isLoc (c : Ctx) (x : Str) : Bool := match c.names.lookup x with
  | some .local => true
  | some .cell => (match c.own with | none => true | some l => l.lookup x == some .cell)
  | _ => false
def isBi (c : Ctx) (x : Str) : Bool := isGl c x && decide (x ∈ bNames)
def mkSc (names : List (Str × NameKind)) : Scope := { kind := .function, names := names, isGenerator := false, isCoroutine := false }
def plainIx : Expr → Bool
  | .Slice .. => false
  | _ => true
theorem plainIx_ok {e : Expr} (h : plainIx e = true) : PlainIx e := by
  intro o i
  cases e <;> first | exact Bool.noConfusion h | rfl
def notSet : Expr → Bool
  | .Set .. => false
  | _ => true
theorem notSet_ok {e : Expr} {env : Env} (h : notSet e = true) : ∀ x, foldedSetIterable e env x = pure x := by
  intro x
  cases e <;> first | exact Bool.noConfusion h | rfl
/-- names as targets -/
def chkNms (c : Ctx) : List Nat → List Expr → Bool
  | [], [] => true
  | i :: is, e :: es => (match gNm e with
    | some x => decide (c.N[i]? = some x) && isLoc c x
    | none => false) && chkNms c is es
  | _, _ => false
def chkTg (c : Ctx) : Tg → Expr → Bool
  | .v i, e => match gNm e with
    | some x => decide (c.N[i]? = some x) && isLoc c x
    | none => false
  | .tup is, e => match gTup e with
    | some es => chkNms c is es
    | none => false
def opB : Op2 → Operator → Bool
  | .add, .Add => true | .sub, .Sub => true | .mul, .Mult => true | .fdiv, .FloorDiv => true | .mod, .Mod => true | .pow, .Pow => true | .addM, .Add => true | _, _ => false
def blkCtx (c : Ctx) (sc : Scope) : Ctx := { c with names := (relS sc (mkSc c.names)).names, own := some sc.names }
/-- a chain's rest -/
def isBop : Bool → CmpOp → Bool | false, .Is => true | true, .IsNot => true | _, _ => false
def restOf (o : BoolOp) (b : Expr) (r : List Expr) (p : Pos) : Expr := match r with
  | [] => b
  | r => .BoolOp o (b :: r) p
def chkTys (c : Ctx) : List Ty → List Expr → Bool
  | [], [] => true
  | t :: ts, e :: es => (match gNm e with
    | some x => decide (x = tyNm t) && isBi c x
    | none => false) && chkTys c ts es
  | _, _ => false

mutual
def chkE : Ex → Ctx → Expr → Bool
  | .v i, c, pe => match gNm pe with
    | some x => decide (c.N[i]? = some x) && isVis c x
    | none => false
  | .non, _, pe => match gCst pe with
    | some .none => true
    | _ => false
  | .bl b, _, pe => match gCst pe with
    | some (.bool d) => decide (b = d)
    | _ => false
  | .int b, _, pe => match gCst pe with
    | some (.int d) => decide (b = d)
    | _ => false
  | .str b, _, pe => match gCst pe with
    | some (.str d) => decide (b = d)
    | _ => false
  | .glob g, c, pe => match gNm pe with
    | some x => decide (c.glm[g]? = some x) && isGl c x
    | none => false
  | .op2 o a b, c, pe => match gBin pe with
    | some (l, po, r) => opB o po && chkE a c l && chkE b c r
    | none => false
  | .neg a, c, pe => match gUn pe with
    | some (.USub, x) => chkE a c x
    | _ => false
  | .cmp o a b, c, pe => match gCmp pe with
    | some (x, [p], [y]) => cmB o p && !behindInMarks p y && chkE a c x && chkE b c y
    | _ => false
  | .chain o1 o2 a b d, c, pe => match gCmp pe with
    | some (x, [p, q], [y, z]) => cmB o1 p && (cmB o2 q && !behindInMarks q z) && chkE a c x && chkE b c y && chkE d c z
    | _ => false
  | .isN a, c, pe => match gCmp pe with
    | some (x, [.Is], [y]) => (match gCst y with | some .none => true | _ => false) && chkE a c x
    | _ => false
  | .notN a, c, pe => match gCmp pe with
    | some (x, [.IsNot], [y]) => (match gCst y with | some .none => true | _ => false) && chkE a c x
    | _ => false
  | .isB ng a b, c, pe => match gCmp pe with
    | some (x, [o], [y]) => isBop ng o && (match gCst y with | some (.bool d) => decide (b = d) | _ => false) && chkE a c x
    | _ => false
  | .band a b, c, pe => match gBool pe with
    | some (.And, x :: y :: r, p) => chkE a c x && chkE b c (restOf .And y r p)
    | _ => false
  | .bor a b, c, pe => match gBool pe with
    | some (.Or, x :: y :: r, p) => chkE a c x && chkE b c (restOf .Or y r p)
    | _ => false
  | .bnot a, c, pe => match gUn pe with
    | some (.Not, x) => chkE a c x
    | _ => false
  | .ifx t a b, c, pe => match gIf pe with
    | some (x, y, z) => chkE t c x && chkE a c y && chkE b c z
    | none => false
  | .tup es, c, pe => match gTup pe with
    | some ps => chkEs es c ps
    | none => false
  | .lst es, c, pe => match gLst pe with
    | some ps => chkEs es c ps
    | none => false
  | .lstM es, c, pe => match gLst pe with
    | some ps => chkEs es c ps
    | none => false
  | .ix a i, c, pe => match gSub pe with
    | some (x, y) => plainIx y && chkE a c x && chkE i c y
    | none => false
  | .slice a lo hi, c, pe => match gSub pe with
    | some (x, y) => (match gSlc y with
      | some (l, u) => chkE a c x && chkO lo c l && chkO hi c u
      | none => false)
    | none => false
  | .rev a, c, pe => match gRev pe with
    | some x => chkE a c x
    | none => false
  | .call f es, c, pe => match gCall pe with
    | some (x, ps, []) => decide (c.fnm[f]? = some x) && isGl c x && chkEs es c ps
    | _ => false
  | .callk f es kes perm, c, pe => match gCall pe with
    | some (x, ps, k :: ks) => decide (c.fnm[f]? = some x) && isGl c x && decide ((f, ps.length, (k :: ks).filterMap (·.arg), perm) ∈ c.kw) && decide ((k :: ks).map (·.arg) = ((k :: ks).filterMap (·.arg)).map some) && chkEs es c ps && chkKs kes c (k :: ks)
    | _ => false
  | .isi a t, c, pe => match gCall pe with
    | some (x, [y, z], []) => (match gNm z with
      | some w => decide (x = ("isinstance" : Str)) && isBi c x && decide (w = tyNm t) && isBi c w && notStar y && chkE a c y
      | none => false)
    | _ => false
  | .isiT a ts, c, pe => match gCall pe with
    | some (x, [y, z], []) => (match gTup z with
      | some ws => decide (x = ("isinstance" : Str)) && isBi c x && chkTys c ts ws && decide (ts.length ≤ 100) && notStar y && chkE a c y
      | none => false)
    | _ => false
  | .bi b es, c, pe => match gCall pe with
    | some (x, p :: ps, []) => decide (x = biName b) && (decide (b ≠ .repr) || c.rp) && isBi c x && chkEs es c (p :: ps)
    | _ => false
  | .meth m r es, c, pe => match gMeth pe with
    | some (o, nm, p :: ps, ap, cp) => decide (nm = mtNm m) && decide ((p :: ps).length < 30) && notCall o && (ap.endLine == cp.line) && chkE r c o && chkEs es c (p :: ps)
    | _ => false
  | .lenset a, c, pe => match gNest pe with
    | some (x, y, [z]) => decide (x = ("len" : Str)) && isBi c x && decide (y = ("set" : Str)) && isBi c y && notStar z && chkE a c z
    | _ => false
  | .rngs l a b, c, pe => match gNest pe with
    | some (x, y, [z, w]) => decide (x = if l = true then ("list" : Str) else ("tuple" : Str)) && isBi c x && decide (y = ("range" : Str)) && isBi c y && notStar z && notStar w && chkE a c z && chkE b c w
    | _ => false
  | .dct kvs, _, pe => match gDct pe with
    | some (ks, vs) => decide (kvs ≠ []) && decide (kvs.length ≤ 15) && decide (kvs.map (·.1)).Nodup && dctB kvs ks vs
    | none => false
  | .dix d k, c, pe => match gSub pe with
    | some (a, b) => plainIx b && chkE d c a && chkE k c b
    | none => false
  | .dget d k f, c, pe => match gMeth pe with
    | some (o, nm, [p, q], ap, cp) => decide (nm = ("get" : Str)) && notCall o && (ap.endLine == cp.line) && notStar p && notStar q && chkE d c o && chkE k c p && chkE f c q
    | _ => false
  | .fnv j x, c, pe => match gNm pe with
    | some y => decide (y = x) && decide (c.fnm[j]? = some x) && isGl c x
    | none => false
  | .callv i ops es, c, pe => match gCall pe with
    | some (y, p :: ps, []) => decide (c.N[i]? = some y) && isVis c y && ops.all (fun o => decide (c.fnm[o.1]? = some o.2)) && chkEs es c (p :: ps)
    | _ => false
  | .comp _ own tg it cond elt, c, pe => match gLc pe with
    | some (pelt, ptg, pit, ifs, sc) => blkC c.N (mkSc c.names) sc own && (tgIx tg).all (fun i => decide (i ∈ own.map (·.2))) && chkTg (blkCtx c sc) tg ptg && notSet pit && chkI it c ptg pit && chkTs cond (blkCtx c sc) ifs && chkE elt (blkCtx c sc) pelt
    | none => false
def chkEs : Exs → Ctx → List Expr → Bool
  | .nil, _, [] => true
  | .cons e es, c, p :: ps => notStar p && chkE e c p && chkEs es c ps
  | _, _, _ => false
def chkKs : Exs → Ctx → List Keyword → Bool
  | .nil, _, [] => true
  | .cons e es, c, p :: ps => chkE e c p.value && chkKs es c ps
  | _, _, _ => false
def chkTs : Exs → Ctx → List Expr → Bool
  | .nil, _, [] => true
  | .cons e .nil, c, [p] => chkE e c p
  | _, _, _ => false
def chkO : Eo → Ctx → Option Expr → Bool
  | .none, _, none => true
  | .some e, c, some p => chkE e c p
  | _, _, _ => false
def chkI : It → Ctx → Expr → Expr → Bool
  | .ex e, c, _, pe => chkE e c pe
  | .rvs e, c, _, pe => match gCall pe with
    | some (x, [y], []) => decide (x = ("reversed" : Str)) && isBi c x && notStar y && chkE e c y
    | _ => false
  | .enm e, c, tg, pe => match gCall pe with
    | some (x, [y], []) => (gTup tg).isSome && decide (x = ("enumerate" : Str)) && isBi c x && notStar y && chkE e c y
    | _ => false
  | .enmT e, c, tg, pe => match gCall pe with
    | some (x, [y], []) => (gTup tg).isSome && decide (x = ("enumerate" : Str)) && isBi c x && notStar y && chkE e c y
    | _ => false
  | .sgn e, c, _, pe => chkE e c pe
  | .zp a b, c, tg, pe => match gCall pe with
    | some (x, [y, z], []) => (gTup tg).isSome && decide (x = ("zip" : Str)) && isBi c x && notStar y && notStar z && chkE a c y && chkE b c z
    | _ => false
  | .rng1 a, c, _, pe => match gCall pe with
    | some (x, [y], []) => decide (x = ("range" : Str)) && isBi c x && notStar y && chkE a c y
    | _ => false
  | .rng2 a b, c, _, pe => match gCall pe with
    | some (x, [y, z], []) => decide (x = ("range" : Str)) && isBi c x && notStar y && notStar z && chkE a c y && chkE b c z
    | _ => false
end

/-! Mini 12: the expressions of the small language are sound. -/

section
variable {c : Ctx} {Γ : Gam} {X : Cx} {x : Str}
theorem isGl_ok (G : Good c Γ X) (h : isGl c x = true) : Gl X x ∧ (x == ("__debug__" : Str)) = false := by
  unfold isGl at h
  rw [Bool.and_eq_true] at h
  refine ⟨?_, by simpa using h.2⟩
  show X.env.scope.names.lookup x = _
  rw [G.names]
  exact of_decide_eq_true h.1
theorem isBi_ok (G : Good c Γ X) (h : isBi c x = true) : Gl X x ∧ X.mg x = none := by
  unfold isBi at h
  rw [Bool.and_eq_true] at h
  exact ⟨(isGl_ok G h.1).1, G.bi x (of_decide_eq_true h.2)⟩
theorem isVis_ok (G : Good c Γ X) (h : isVis c x = true) : Vis X.env.scope x ∧ (x == ("__debug__" : Str)) = false ∧ (x == ("__classdict__" : Str)) = false := by
  unfold isVis at h
  rw [Bool.and_eq_true, Bool.and_eq_true] at h
  obtain ⟨⟨h1, h2⟩, h3⟩ := h
  refine ⟨?_, by simpa using h2, by simpa using h3⟩
  unfold Vis
  rw [G.names]
  split at h1
  · exact .inl (by assumption)
  · exact .inr (.inl (by assumption))
  · exact .inr (.inr (by assumption))
  · cases h1
theorem isLoc_ok (G : Good c Γ X) (h : isLoc c x = true) : Loc X.env.scope x ∧ (X.fn x = true ∨ X.env.scope.names.lookup x = some .local) := by
  unfold isLoc at h
  unfold L2.Loc
  rw [G.names]
  split at h
  · rename_i e
    exact ⟨.inl e, .inr e⟩
  · rename_i e
    exact ⟨.inr e, .inl (by rw [G.fnn]; exact h)⟩
  · cases h
theorem chkNms_ok (G : Good c Γ X) : ∀ {is : List Nat} {es : List Expr}, chkNms c is es = true → NmT X is es
  | [], [], _ => .nil
  | i :: is, e :: es, h => by
    unfold chkNms at h
    rw [Bool.and_eq_true] at h
    obtain ⟨h1, h2⟩ := h
    split at h1
    · rename_i x e1
      obtain ⟨p, rfl⟩ := gNm_eq e1
      rw [Bool.and_eq_true] at h1
      have l := isLoc_ok G h1.2
      exact .cons (by rw [G.N]; exact of_decide_eq_true h1.1) l.1 l.2 (chkNms_ok G h2)
    · cases h1
  | [], _ :: _, h => by cases h
  | _ :: _, [], h => by cases h
theorem chkTg_ok (G : Good c Γ X) {tg : Tg} {e : Expr} (h : chkTg c tg e = true) : PG X e (tG X.K tg) := by
  have nd : X.N.Nodup := by rw [G.N]; exact G.nd
  cases tg with
  | v i =>
    have h2 : (match gNm e with
      | some x => decide (c.N[i]? = some x) && isLoc c x
      | none => false) = true := h
    clear h
    split at h2
    · rename_i x e1
      obtain ⟨p, rfl⟩ := gNm_eq e1
      rw [Bool.and_eq_true] at h2
      have l := isLoc_ok G h2.2
      exact pg_vD nd (by rw [G.N]; exact of_decide_eq_true h2.1) l.1 l.2
    · cases h2
  | tup is =>
    have h2 : (match gTup e with
      | some es => chkNms c is es
      | none => false) = true := h
    clear h
    split at h2
    · rename_i es e1
      obtain ⟨k, p, rfl⟩ := gTup_eq e1
      exact pg_tupD nd G.calm (chkNms_ok G h2)
    · cases h2
theorem chkTys_ok (G : Good c Γ X) : ∀ {ts : List Ty} {es : List Expr}, chkTys c ts es = true → Paired (fun (t : Ty) (e : Expr) => ∃ p, e = .Name (tyNm t) p ∧ Gl X (tyNm t) ∧ X.mg (tyNm t) = none) ts es
  | [], [], _ => .nil
  | t :: ts, e :: es, h => by
    unfold chkTys at h
    rw [Bool.and_eq_true] at h
    obtain ⟨h1, h2⟩ := h
    split at h1
    · rename_i x e1
      obtain ⟨p, rfl⟩ := gNm_eq e1
      rw [Bool.and_eq_true] at h1
      have e2 := of_decide_eq_true h1.1
      subst e2
      exact .cons ⟨p, rfl, isBi_ok G h1.2⟩ (chkTys_ok G h2)
    · cases h1
  | [], _ :: _, h => by cases h
  | _ :: _, [], h => by cases h
/-- within a comprehension's block -/
theorem Good.blk (G : Good c Γ X) {sc : Scope} (hk : sc.kind = .function) (s : Shared) (H : Hp) (C : Addr) (cl : List (Str × Addr)) (fp : List Addr) : Good (blkCtx c sc) Γ (X.blk s H sc (compEnvC sc cl C X.env) fp) where
  N := G.N
  nd := G.nd
  names := by
    show (relS sc X.env.scope).names = (relS sc (mkSc c.names)).names
    unfold relS
    rw [G.kind, G.names]
    rfl
  kind := hk
  calm := G.calm
  fnn := fun _ => rfl
  units := G.units
  gd := G.gd
  bi := G.bi
  fn := fun i den e => by
    obtain ⟨x, h1, h2⟩ := G.fn i den e
    obtain ⟨f, fd, ps, k, F⟩ := h2.ex
    exact ⟨x, h1, ⟨f, fd, ps, k, F⟩⟩
  kw := fun i n ks perm den hm e => by
    obtain ⟨x, h1, h2⟩ := G.kw i n ks perm den hm e
    obtain ⟨f, fd, ps, k, F⟩ := h2.ex
    exact ⟨x, h1, ⟨f, fd, ps, k, F⟩⟩
  gl := fun g d e => G.gl g d e
theorem blkC_ok (G : Good c Γ X) {sc : Scope} {own : List (Str × Nat)} (h : blkC c.N (mkSc c.names) sc own = true) : BlkOk X.N X.env.scope sc own := by
  have b := blkOk_by h
  rw [G.N]
  exact ⟨b.kind, b.uniq, b.ix, fun y hy e => by rw [G.names]; exact b.free y hy e, b.own⟩
theorem pe_stuck {pe : Expr} {K : PySem.W.Frag} : PE X pe (tE K fun _ _ => .stuck) := ⟨fun _ _ _ _ _ _ ⟨_, _, _, _, q⟩ => False.elim q⟩
theorem pt_stuck {pe : Expr} {K : PySem.W.Frag} : PT X pe (tT K fun _ _ => .stuck) := ⟨fun _ _ _ _ _ _ ⟨_, _, _, _, q⟩ => False.elim q⟩
end
/-- what is shown of an expression -/
structure Snd4 (Γ : Gam) (e : Ex) (X : Cx) (pe : Expr) : Prop where
  sE : PE X pe (tE X.K (evE Γ e))
  sT : PT X pe (tT X.K (evT Γ e))
  sW : ∀ o vs p, pe = .BoolOp o vs p → PW X pe (tT X.K (evT Γ e))
section
variable {Γ : Gam} {X : Cx} {e : Ex} {pe : Expr}
theorem snd_val (p : PE X pe (tE X.K (evE Γ e))) (hp : plainT pe = true) (et : ∀ σ h, evT Γ e σ h = (evE Γ e σ h).bind trD) : Snd4 Γ e X pe where
  sE := p
  sT := by
    have := pt_valD p hp
    rw [show evT Γ e = fun σ h => (evE Γ e σ h).bind trD from funext fun σ => funext fun h => et σ h]
    exact this
  sW := fun o vs q h => by subst h; exact Bool.noConfusion hp
theorem snd_no (p : PE X pe (tE X.K (evE Γ e))) (nb : ∀ o vs p, pe ≠ .BoolOp o vs p) (et : ∀ σ h, evT Γ e σ h = .stuck) : Snd4 Γ e X pe where
  sE := p
  sT := by
    rw [show evT Γ e = fun _ _ => .stuck from funext fun σ => funext fun h => et σ h]
    exact pt_stuck
  sW := fun o vs q h => absurd h (nb o vs q)
theorem snd_t (p : PE X pe (tE X.K (evE Γ e))) (t : PT X pe (tT X.K (evT Γ e))) (nb : ∀ o vs p, pe ≠ .BoolOp o vs p) : Snd4 Γ e X pe where
  sE := p
  sT := t
  sW := fun o vs q h => absurd h (nb o vs q)
theorem snd_b {o : BoolOp} {vs : List Expr} {q : Pos} (p : PE X (.BoolOp o vs q) (tE X.K (evE Γ e))) (t : PW X (.BoolOp o vs q) (tT X.K (evT Γ e))) : Snd4 Γ e X (.BoolOp o vs q) where
  sE := p
  sT := t.pt
  sW := fun _ _ _ _ => t
end
def Snd (Γ : Gam) (e : Ex) : Prop := ∀ (c : Ctx) (X : Cx) (pe : Expr), Good c Γ X → chkE e c pe = true → Snd4 Γ e X pe
structure SndsR (Γ : Gam) (es : Exs) : Prop where
  a : ∀ (c : Ctx) (X : Cx) (ps : List Expr), Good c Γ X → chkEs es c ps = true → PA X ps (tA X.K (evEs Γ es)) ∧ noStars ps = true ∧ ∀ σ h ds h', evEs Γ es σ h = .ok ds h' → ds.length = ps.length
  k : ∀ (c : Ctx) (X : Cx) (ks : List Keyword), Good c Γ X → chkKs es c ks = true → PK X ks (tA X.K (evEs Γ es)) ∧ ∀ σ h ds h', evEs Γ es σ h = .ok ds h' → ds.length = ks.length
  t : ∀ (c : Ctx) (X : Cx) (ps : List Expr), Good c Γ X → chkTs es c ps = true → PTs X ps (tT X.K (evTs Γ es))
theorem restOf_pw {X : Cx} {t : TT} {o : BoolOp} {b : Expr} {r : List Expr} {p : Pos} (ho : o = .And ∨ o = .Or) (h1 : PT X (restOf o b r p) t) (h2 : ∀ o' vs q, restOf o b r p = .BoolOp o' vs q → PW X (restOf o b r p) t) : PW X (.BoolOp o (b :: r) p) t := by
  cases r with
  | nil =>
    rcases ho with rfl | rfl
    · exact pw_and1 h1
    · exact pw_or1 h1
  | cons y r => exact h2 _ _ _ rfl
theorem restOf_pe {X : Cx} {t : TE} {o : BoolOp} {b : Expr} {r : List Expr} {p : Pos} (h1 : PE X (restOf o b r p) t) : PE X (.BoolOp o (b :: r) p) t := by
  cases r with
  | nil => exact pe_one h1
  | cons y r => exact h1
theorem sndO {Γ : Gam} {e : Eo} (p : ∀ a, e = .some a → Snd Γ a) (c : Ctx) (X : Cx) (o : Option Expr) (G : Good c Γ X) (h : chkO e c o = true) : PO X o (tP X.K (evO Γ e)) := by
  cases e with
  | none =>
    cases o with
    | none => exact po_noneD
    | some q => exact Bool.noConfusion (show false = true from h)
  | some a =>
    cases o with
    | none => exact Bool.noConfusion (show false = true from h)
    | some q => exact po_someD (p a rfl c X q G h).sE

/-! Mini 13: every expression of the small language is sound. -/

theorem and2 {a b : Bool} (h : (a && b) = true) : a = true ∧ b = true := by rwa [Bool.and_eq_true] at h
theorem wp_eta {α : Type} (r : Res α) : r.bind (fun a h => .ok a h) = r := by cases r <;> rfl

theorem snd_v (Γ : Gam) (i : Nat) : Snd Γ (.v i) := fun c X pe G h => by
  have h2 : (match gNm pe with
    | some x => decide (c.N[i]? = some x) && isVis c x
    | none => false) = true := h
  clear h
  split at h2
  · rename_i x e
    obtain ⟨p, rfl⟩ := gNm_eq e
    obtain ⟨a, b⟩ := and2 h2
    have v := isVis_ok G b
    refine snd_val (pe_varD (by rw [G.N]; exact of_decide_eq_true a) v.1 v.2.1 v.2.2) rfl fun σ h => ?_
    show (match σ[i]? with
      | some (some d) => trD d h
      | _ => Res.stuck) = Res.bind (match σ[i]? with
      | some (some d) => Res.ok d h
      | _ => Res.stuck) trD
    split <;> rfl
  · cases h2
theorem snd_cst {Γ : Gam} {e : Ex} {d : D} (he : evE Γ e = fun _ h => .ok d h) (ht : ∀ σ h, evT Γ e σ h = .stuck) (hc : ∀ c (X : Cx) pe, chkE e c pe = true → (∃ k p cc, pe = .Constant cc k p) ∧ ∃ v, PE X pe (tC v) ∧ ∀ H ρ M, RD X.K H ρ M d v) : Snd Γ e := fun c X pe G h => by
  obtain ⟨⟨k, p, cc, rfl⟩, v, q, r⟩ := hc c X pe h
  refine snd_no (by rw [he]; exact pe_constD q r) (fun o vs p z => by cases z) ht
theorem snd_non (Γ : Gam) : Snd Γ .non := snd_cst (d := .non) rfl (fun _ _ => rfl) fun c X pe h => by
  have h2 : (match gCst pe with
    | some .none => true
    | _ => false) = true := h
  clear h
  split at h2
  · rename_i e
    obtain ⟨k, p, rfl⟩ := gCst_eq e
    exact ⟨⟨_, _, _, rfl⟩, _, pe_non, fun _ _ _ => .non⟩
  · cases h2
theorem snd_int (Γ : Gam) (i : Int) : Snd Γ (.int i) := snd_cst (d := .int i) rfl (fun _ _ => rfl) fun c X pe h => by
  have h2 : (match gCst pe with
    | some (.int d) => decide (i = d)
    | _ => false) = true := h
  clear h
  split at h2
  · rename_i d e
    obtain ⟨k, p, rfl⟩ := gCst_eq e
    have := of_decide_eq_true h2
    subst this
    exact ⟨⟨_, _, _, rfl⟩, _, pe_int, fun _ _ _ => .int _⟩
  · cases h2
theorem snd_str (Γ : Gam) (i : Str) : Snd Γ (.str i) := snd_cst (d := .str i) rfl (fun _ _ => rfl) fun c X pe h => by
  have h2 : (match gCst pe with
    | some (.str d) => decide (i = d)
    | _ => false) = true := h
  clear h
  split at h2
  · rename_i d e
    obtain ⟨k, p, rfl⟩ := gCst_eq e
    have := of_decide_eq_true h2
    subst this
    exact ⟨⟨_, _, _, rfl⟩, _, pe_str, fun _ _ _ => .str _⟩
  · cases h2
theorem snd_bl (Γ : Gam) (i : Bool) : Snd Γ (.bl i) := fun c X pe G h => by
  have h2 : (match gCst pe with
    | some (.bool d) => decide (i = d)
    | _ => false) = true := h
  clear h
  split at h2
  · rename_i d e
    obtain ⟨k, p, rfl⟩ := gCst_eq e
    have := of_decide_eq_true h2
    subst this
    exact snd_val (pe_constD pe_bl fun _ _ _ => .bl _) rfl fun _ _ => rfl
  · cases h2
theorem snd_glob (Γ : Gam) (g : Nat) : Snd Γ (.glob g) := fun c X pe G h => by
  have h2 : (match gNm pe with
    | some x => decide (c.glm[g]? = some x) && isGl c x
    | none => false) = true := h
  clear h
  split at h2
  · rename_i x e
    obtain ⟨p, rfl⟩ := gNm_eq e
    obtain ⟨a, b⟩ := and2 h2
    obtain ⟨gl, db⟩ := isGl_ok G b
    refine snd_no ?_ (fun o vs p z => by cases z) (fun _ _ => rfl)
    cases e2 : Γ.gl g with
    | none =>
      have : evE Γ (.glob g) = fun _ _ => .stuck := by
        funext σ h
        show (match Γ.gl g with
          | some d => Res.ok d h
          | none => Res.stuck) = _
        rw [e2]
      rw [this]
      exact pe_stuck
    | some d =>
      have : evE Γ (.glob g) = fun _ h => .ok d h := by
        funext σ h
        show (match Γ.gl g with
          | some d => Res.ok d h
          | none => Res.stuck) = _
        rw [e2]
      rw [this]
      obtain ⟨y, u, v, h1, h2, h3, h4⟩ := G.gl g d e2
      have := of_decide_eq_true a
      rw [this] at h1
      cases h1
      exact pe_constD (pe_glob gl h2 h3 db) h4
  · cases h2
theorem snd_op2 {Γ : Gam} {o : Op2} {a b : Ex} (pa : Snd Γ a) (pb : Snd Γ b) : Snd Γ (.op2 o a b) := fun c X pe G h => by
  have h2 : (match gBin pe with
    | some (l, po, r) => opB o po && chkE a c l && chkE b c r
    | none => false) = true := h
  clear h
  split at h2
  · rename_i l po r e
    obtain ⟨p, rfl⟩ := gBin_eq e
    obtain ⟨h1, h3⟩ := and2 h2
    obtain ⟨h1, h4⟩ := and2 h1
    exact snd_no (pe_opD (opR_of o po h1) (pa c X l G h4).sE (pb c X r G h3).sE) (fun o vs p z => by cases z) (fun _ _ => rfl)
  · cases h2
theorem snd_neg {Γ : Gam} {a : Ex} (pa : Snd Γ a) : Snd Γ (.neg a) := fun c X pe G h => by
  have h2 : (match gUn pe with
    | some (.USub, x) => chkE a c x
    | _ => false) = true := h
  clear h
  split at h2
  · rename_i x e
    obtain ⟨p, rfl⟩ := gUn_eq e
    exact snd_no (pe_negD (pa c X x G h2).sE) (fun o vs p z => by cases z) (fun _ _ => rfl)
  · cases h2
theorem snd_cmp {Γ : Gam} {o : Cm} {a b : Ex} (pa : Snd Γ a) (pb : Snd Γ b) : Snd Γ (.cmp o a b) := fun c X pe G h => by
  have h2 : (match gCmp pe with
    | some (x, [p], [y]) => cmB o p && !behindInMarks p y && chkE a c x && chkE b c y
    | _ => false) = true := h
  clear h
  split at h2
  · rename_i x q y e
    obtain ⟨p, rfl⟩ := gCmp_eq e
    obtain ⟨h1, h3⟩ := and2 h2
    obtain ⟨h1, h4⟩ := and2 h1
    obtain ⟨h1, h5⟩ := and2 h1
    have h5 : behindInMarks q y = false := by simpa using h5
    exact snd_t (pe_cmpD G.units h1 h5 (pa c X x G h4).sE (pb c X y G h3).sE) (pt_cmpD G.units h1 h5 (pa c X x G h4).sE (pb c X y G h3).sE) (fun o vs p z => by cases z)
  · cases h2
theorem snd_chain {Γ : Gam} {o1 o2 : Cm} {a b d : Ex} (pa : Snd Γ a) (pb : Snd Γ b) (pd : Snd Γ d) : Snd Γ (.chain o1 o2 a b d) := fun c X pe G h => by
  have h2 : (match gCmp pe with
    | some (x, [p, q], [y, z]) => cmB o1 p && (cmB o2 q && !behindInMarks q z) && chkE a c x && chkE b c y && chkE d c z
    | _ => false) = true := h
  clear h
  split at h2
  · rename_i x q1 q2 y z e
    obtain ⟨p, rfl⟩ := gCmp_eq e
    obtain ⟨h1, h3⟩ := and2 h2
    obtain ⟨h1, h4⟩ := and2 h1
    obtain ⟨h1, h5⟩ := and2 h1
    obtain ⟨h1, h6⟩ := and2 h1
    obtain ⟨h6, h7⟩ := and2 h6
    have h7 : behindInMarks q2 z = false := by simpa using h7
    exact snd_t (pe_chainD G.units h1 h6 h7 (pa c X x G h5).sE (pb c X y G h4).sE (pd c X z G h3).sE) (pt_chainD G.units h1 h6 h7 (pa c X x G h5).sE (pb c X y G h4).sE (pd c X z G h3).sE) (fun o vs p z => by cases z)
  · cases h2
theorem snd_isN {Γ : Gam} {a : Ex} (pa : Snd Γ a) : Snd Γ (.isN a) := fun c X pe G h => by
  have h2 : (match gCmp pe with
    | some (x, [.Is], [y]) => (match gCst y with | some .none => true | _ => false) && chkE a c x
    | _ => false) = true := h
  clear h
  split at h2
  · rename_i x y e
    obtain ⟨p, rfl⟩ := gCmp_eq e
    obtain ⟨h1, h3⟩ := and2 h2
    split at h1
    · rename_i e2
      obtain ⟨k, q, rfl⟩ := gCst_eq e2
      exact snd_t (pe_isND (pa c X x G h3).sE) (pt_isND (pa c X x G h3).sE) (fun o vs p z => by cases z)
    · cases h1
  · cases h2
theorem snd_notN {Γ : Gam} {a : Ex} (pa : Snd Γ a) : Snd Γ (.notN a) := fun c X pe G h => by
  have h2 : (match gCmp pe with
    | some (x, [.IsNot], [y]) => (match gCst y with | some .none => true | _ => false) && chkE a c x
    | _ => false) = true := h
  clear h
  split at h2
  · rename_i x y e
    obtain ⟨p, rfl⟩ := gCmp_eq e
    obtain ⟨h1, h3⟩ := and2 h2
    split at h1
    · rename_i e2
      obtain ⟨k, q, rfl⟩ := gCst_eq e2
      exact snd_t (pe_notND (pa c X x G h3).sE) (pt_notND (pa c X x G h3).sE) (fun o vs p z => by cases z)
    · cases h1
  · cases h2
theorem snd_isB {Γ : Gam} {ng : Bool} {a : Ex} {b : Bool} (pa : Snd Γ a) : Snd Γ (.isB ng a b) := fun c X pe G h => by
  have h2 : (match gCmp pe with
    | some (x, [o], [y]) => isBop ng o && (match gCst y with | some (.bool d) => decide (b = d) | _ => false) && chkE a c x
    | _ => false) = true := h
  clear h
  split at h2
  · rename_i x o y e
    obtain ⟨p, rfl⟩ := gCmp_eq e
    obtain ⟨h1, h3⟩ := and2 h2
    obtain ⟨h1, h4⟩ := and2 h1
    split at h4
    · rename_i d e2
      obtain ⟨k, q, rfl⟩ := gCst_eq e2
      have := of_decide_eq_true h4
      subst this
      cases ng <;> cases o <;> first | exact Bool.noConfusion h1 | skip
      · exact snd_t (pe_isBD (pa c X x G h3).sE) (pt_isBD (pa c X x G h3).sE) (fun o vs p z => by cases z)
      · exact snd_t (pe_notBD (pa c X x G h3).sE) (pt_notBD (pa c X x G h3).sE) (fun o vs p z => by cases z)
    · cases h4
  · cases h2
theorem snd_rev {Γ : Gam} {a : Ex} (pa : Snd Γ a) : Snd Γ (.rev a) := fun c X pe G h => by
  have h2 : (match gRev pe with
    | some x => chkE a c x
    | none => false) = true := h
  clear h
  split at h2
  · rename_i x e
    obtain ⟨k, p1, p2, p3, p, rfl⟩ := gRev_eq e
    exact snd_no (pe_revD (pa c X x G h2).sE) (fun o vs p z => by cases z) (fun _ _ => rfl)
  · cases h2
theorem snd_band {Γ : Gam} {a b : Ex} (pa : Snd Γ a) (pb : Snd Γ b) : Snd Γ (.band a b) := fun c X pe G h => by
  have h2 : (match gBool pe with
    | some (.And, x :: y :: r, p) => chkE a c x && chkE b c (restOf .And y r p)
    | _ => false) = true := h
  clear h
  split at h2
  · rename_i x y r p e
    have e2 := gBool_eq e
    subst e2
    obtain ⟨h1, h3⟩ := and2 h2
    have A := pa c X x G h1
    have B := pb c X _ G h3
    exact snd_b (pe_andD A.sE (restOf_pe B.sE)) (pw_andD A.sT (restOf_pw (.inl rfl) B.sT B.sW))
  · cases h2
theorem snd_bor {Γ : Gam} {a b : Ex} (pa : Snd Γ a) (pb : Snd Γ b) : Snd Γ (.bor a b) := fun c X pe G h => by
  have h2 : (match gBool pe with
    | some (.Or, x :: y :: r, p) => chkE a c x && chkE b c (restOf .Or y r p)
    | _ => false) = true := h
  clear h
  split at h2
  · rename_i x y r p e
    have e2 := gBool_eq e
    subst e2
    obtain ⟨h1, h3⟩ := and2 h2
    have A := pa c X x G h1
    have B := pb c X _ G h3
    exact snd_b (pe_orD A.sE (restOf_pe B.sE)) (pw_orD A.sT (restOf_pw (.inr rfl) B.sT B.sW))
  · cases h2
theorem snd_bnot {Γ : Gam} {a : Ex} (pa : Snd Γ a) : Snd Γ (.bnot a) := fun c X pe G h => by
  have h2 : (match gUn pe with
    | some (.Not, x) => chkE a c x
    | _ => false) = true := h
  clear h
  split at h2
  · rename_i x e
    obtain ⟨p, rfl⟩ := gUn_eq e
    exact snd_t (pe_notD (pa c X x G h2).sE) (pt_notD (pa c X x G h2).sT) (fun o vs p z => by cases z)
  · cases h2
theorem snd_ifx {Γ : Gam} {t a b : Ex} (pt : Snd Γ t) (pa : Snd Γ a) (pb : Snd Γ b) : Snd Γ (.ifx t a b) := fun c X pe G h => by
  have h2 : (match gIf pe with
    | some (x, y, z) => chkE t c x && chkE a c y && chkE b c z
    | none => false) = true := h
  clear h
  split at h2
  · rename_i x y z e
    obtain ⟨p, rfl⟩ := gIf_eq e
    obtain ⟨h1, h3⟩ := and2 h2
    obtain ⟨h1, h4⟩ := and2 h1
    exact snd_no (pe_ifD (pt c X x G h1).sT (pa c X y G h4).sE (pb c X z G h3).sE) (fun o vs p z => by cases z) (fun _ _ => rfl)
  · cases h2
theorem snd_tup {Γ : Gam} {es : Exs} (p : SndsR Γ es) : Snd Γ (.tup es) := fun c X pe G h => by
  have h2 : (match gTup pe with
    | some ps => chkEs es c ps
    | none => false) = true := h
  clear h
  split at h2
  · rename_i ps e
    obtain ⟨k, q, rfl⟩ := gTup_eq e
    exact snd_no (pe_tupD (p.a c X ps G h2).1) (fun o vs p z => by cases z) (fun _ _ => rfl)
  · cases h2
theorem snd_lst {Γ : Gam} {es : Exs} (p : SndsR Γ es) : Snd Γ (.lst es) := fun c X pe G h => by
  have h2 : (match gLst pe with
    | some ps => chkEs es c ps
    | none => false) = true := h
  clear h
  split at h2
  · rename_i ps e
    obtain ⟨q, rfl⟩ := gLst_eq e
    exact snd_no (pe_lstD (p.a c X ps G h2).1) (fun o vs p z => by cases z) (fun _ _ => rfl)
  · cases h2
theorem snd_lstM {Γ : Gam} {es : Exs} (p : SndsR Γ es) : Snd Γ (.lstM es) := fun c X pe G h => by
  have h2 : (match gLst pe with
    | some ps => chkEs es c ps
    | none => false) = true := h
  clear h
  split at h2
  · rename_i ps e
    obtain ⟨q, rfl⟩ := gLst_eq e
    exact snd_no (pe_lstMD (p.a c X ps G h2).1) (fun o vs p z => by cases z) (fun _ _ => rfl)
  · cases h2
theorem snd_ix {Γ : Gam} {a i : Ex} (pa : Snd Γ a) (pi : Snd Γ i) : Snd Γ (.ix a i) := fun c X pe G h => by
  have h2 : (match gSub pe with
    | some (x, y) => plainIx y && chkE a c x && chkE i c y
    | none => false) = true := h
  clear h
  split at h2
  · rename_i x y e
    obtain ⟨p, rfl⟩ := gSub_eq e
    obtain ⟨h1, h3⟩ := and2 h2
    obtain ⟨h1, h4⟩ := and2 h1
    exact snd_no (pe_ixD (pa c X x G h4).sE (pi c X y G h3).sE (plainIx_ok h1)) (fun o vs p z => by cases z) (fun _ _ => rfl)
  · cases h2
theorem snd_slice {Γ : Gam} {a : Ex} {lo hi : Eo} (pa : Snd Γ a) (pl : ∀ e, lo = .some e → Snd Γ e) (ph : ∀ e, hi = .some e → Snd Γ e) : Snd Γ (.slice a lo hi) := fun c X pe G h => by
  have h2 : (match gSub pe with
    | some (x, y) => (match gSlc y with
      | some (l, u) => chkE a c x && chkO lo c l && chkO hi c u
      | none => false)
    | none => false) = true := h
  clear h
  split at h2
  · rename_i x y e
    obtain ⟨p, rfl⟩ := gSub_eq e
    split at h2
    · rename_i l u e2
      obtain ⟨q, rfl⟩ := gSlc_eq e2
      obtain ⟨h1, h3⟩ := and2 h2
      obtain ⟨h1, h4⟩ := and2 h1
      exact snd_no (pe_sliceD (pa c X x G h1).sE (sndO pl c X l G h4) (sndO ph c X u G h3)) (fun o vs p z => by cases z) (fun _ _ => rfl)
    · cases h2
  · cases h2
theorem snd_call {Γ : Gam} {f : Nat} {es : Exs} (p : SndsR Γ es) (hn : es = .nil ∨ es ≠ .nil) : Snd Γ (.call f es) := fun c X pe G h => by
  have h2 : (match gCall pe with
    | some (x, ps, []) => decide (c.fnm[f]? = some x) && isGl c x && chkEs es c ps
    | _ => false) = true := h
  clear h
  split at h2
  · rename_i x ps e
    obtain ⟨p1, p2, rfl⟩ := gCall_eq e
    obtain ⟨h1, h3⟩ := and2 h2
    obtain ⟨h1, h4⟩ := and2 h1
    obtain ⟨gl, db⟩ := isGl_ok G h4
    obtain ⟨A, ns, _⟩ := p.a c X ps G h3
    have et : ∀ σ h, evT Γ (.call f es) σ h = (evE Γ (.call f es) σ h).bind trD := fun σ h => by
      show (evEs Γ es σ h).bind (fun ds h1 => match Γ.fn f with
        | some den => (den ds h1).bind trD
        | none => Res.stuck) = ((evEs Γ es σ h).bind fun ds h1 => match Γ.fn f with
        | some den => den ds h1
        | none => Res.stuck).bind trD
      cases evEs Γ es σ h with
      | stuck => rfl
      | ok ds h1 => cases Γ.fn f <;> rfl
    refine snd_val ?_ rfl et
    cases e2 : Γ.fn f with
    | none =>
      have : evE Γ (.call f es) = fun σ h => (evEs Γ es σ h).bind fun _ _ => .stuck := by
        funext σ h
        show ((evEs Γ es σ h).bind fun ds h1 => match Γ.fn f with
          | some den => den ds h1
          | none => Res.stuck) = _
        rw [e2]
      rw [this]
      have : (fun σ h => (evEs Γ es σ h).bind fun _ _ => (Res.stuck : Res D)) = fun _ _ => .stuck := by
        funext σ h
        cases evEs Γ es σ h <;> rfl
      rw [this]
      exact pe_stuck
    | some den =>
      have : evE Γ (.call f es) = fun σ h => (evEs Γ es σ h).bind fun ds h1 => den ds h1 := by
        funext σ h
        show ((evEs Γ es σ h).bind fun ds h1 => match Γ.fn f with
          | some den => den ds h1
          | none => Res.stuck) = _
        rw [e2]
      rw [this]
      obtain ⟨y, h5, ok⟩ := G.fn f den e2
      rw [of_decide_eq_true h1] at h5
      cases h5
      cases ps with
      | nil =>
        cases es with
        | nil => exact pe_call0D ok gl db
        | cons a b => exact Bool.noConfusion (show false = true from h3)
      | cons q qs => exact pe_callD ok gl db A ns
  · cases h2
theorem snd_callk {Γ : Gam} {f : Nat} {es kes : Exs} {perm : List Nat} (p : SndsR Γ es) (pk : SndsR Γ kes) : Snd Γ (.callk f es kes perm) := fun c X pe G h => by
  have h2 : (match gCall pe with
    | some (x, ps, k :: ks) => decide (c.fnm[f]? = some x) && isGl c x && decide ((f, ps.length, (k :: ks).filterMap (·.arg), perm) ∈ c.kw) && decide ((k :: ks).map (·.arg) = ((k :: ks).filterMap (·.arg)).map some) && chkEs es c ps && chkKs kes c (k :: ks)
    | _ => false) = true := h
  clear h
  split at h2
  · rename_i x ps k ks e
    obtain ⟨p1, p2, rfl⟩ := gCall_eq e
    obtain ⟨h1, h3⟩ := and2 h2
    obtain ⟨h1, h4⟩ := and2 h1
    obtain ⟨h1, h5⟩ := and2 h1
    obtain ⟨h1, h6⟩ := and2 h1
    obtain ⟨h1, h7⟩ := and2 h1
    obtain ⟨gl, db⟩ := isGl_ok G h7
    obtain ⟨A, ns, l2⟩ := p.a c X ps G h4
    obtain ⟨B, l3⟩ := pk.k c X (k :: ks) G h3
    have et : ∀ σ h, evT Γ (.callk f es kes perm) σ h = (evE Γ (.callk f es kes perm) σ h).bind trD := fun σ h => by
      show (evEs Γ es σ h).bind (fun ds h1 => (evEs Γ kes σ h1).bind fun zs h2 => match Γ.fn f with
        | some den => (den (permV perm D.non ds zs) h2).bind trD
        | none => Res.stuck) = ((evEs Γ es σ h).bind fun ds h1 => (evEs Γ kes σ h1).bind fun zs h2 => match Γ.fn f with
        | some den => den (permV perm D.non ds zs) h2
        | none => Res.stuck).bind trD
      cases evEs Γ es σ h with
      | stuck => rfl
      | ok ds h1 =>
        show (evEs Γ kes σ h1).bind _ = ((evEs Γ kes σ h1).bind _).bind trD
        cases evEs Γ kes σ h1 with
        | stuck => rfl
        | ok zs h2 => cases Γ.fn f <;> rfl
    refine snd_val ?_ rfl et
    cases e2 : Γ.fn f with
    | none =>
      have : evE Γ (.callk f es kes perm) = fun _ _ => .stuck := by
        funext σ h
        show ((evEs Γ es σ h).bind fun ds h1 => (evEs Γ kes σ h1).bind fun zs h2 => match Γ.fn f with
          | some den => den (permV perm D.non ds zs) h2
          | none => Res.stuck) = _
        rw [e2]
        cases evEs Γ es σ h with
        | stuck => rfl
        | ok ds h1 =>
          show (evEs Γ kes σ h1).bind _ = _
          cases evEs Γ kes σ h1 <;> rfl
      rw [this]
      exact pe_stuck
    | some den =>
      have : evE Γ (.callk f es kes perm) = fun σ h => (evEs Γ es σ h).bind fun ds h1 => (evEs Γ kes σ h1).bind fun zs h2 => den (permV perm D.non ds zs) h2 := by
        funext σ h
        show ((evEs Γ es σ h).bind fun ds h1 => (evEs Γ kes σ h1).bind fun zs h2 => match Γ.fn f with
          | some den => den (permV perm D.non ds zs) h2
          | none => Res.stuck) = _
        rw [e2]
      rw [this]
      obtain ⟨y, h8, ok⟩ := G.kw f _ _ perm den (of_decide_eq_true h6) e2
      rw [of_decide_eq_true h1] at h8
      cases h8
      cases ps with
      | nil =>
        cases es with
        | nil =>
          exact pe_callk0D ok gl db B (of_decide_eq_true h5) l3
        | cons a b => exact Bool.noConfusion (show false = true from h4)
      | cons q qs => exact pe_callkD ok gl db A B ns (of_decide_eq_true h5) rfl l2 l3
  · cases h2
theorem snd_isi {Γ : Gam} {a : Ex} {t : Ty} (pa : Snd Γ a) : Snd Γ (.isi a t) := fun c X pe G h => by
  have h2 : (match gCall pe with
    | some (x, [y, z], []) => (match gNm z with
      | some w => decide (x = ("isinstance" : Str)) && isBi c x && decide (w = tyNm t) && isBi c w && notStar y && chkE a c y
      | none => false)
    | _ => false) = true := h
  clear h
  split at h2
  · rename_i x y z e
    obtain ⟨p1, p2, rfl⟩ := gCall_eq e
    split at h2
    · rename_i w e2
      obtain ⟨p3, rfl⟩ := gNm_eq e2
      obtain ⟨h1, h3⟩ := and2 h2
      obtain ⟨h1, h4⟩ := and2 h1
      obtain ⟨h1, h5⟩ := and2 h1
      obtain ⟨h1, h6⟩ := and2 h1
      obtain ⟨h1, h7⟩ := and2 h1
      have ex := of_decide_eq_true h1
      subst ex
      obtain ⟨g1, m1⟩ := isBi_ok G h7
      obtain ⟨g2, m2⟩ := isBi_ok G h5
      refine snd_val (pe_isiD (of_decide_eq_true h6) g1 m1 g2 m2 (pa c X y G h3).sE h4) rfl fun σ h => ?_
      show (evE Γ a σ h).bind (fun x h1 => .guard (openD h1 x) (.ok (tyD t x) h1)) = ((evE Γ a σ h).bind fun x h1 => .guard (openD h1 x) (.ok (.bl (tyD t x)) h1)).bind trD
      cases evE Γ a σ h with
      | stuck => rfl
      | ok d h1 =>
        show Res.guard (openD h1 d) _ = (Res.guard (openD h1 d) _).bind trD
        cases openD h1 d <;> rfl
    · cases h2
  · cases h2
theorem snd_isiT {Γ : Gam} {a : Ex} {ts : List Ty} (pa : Snd Γ a) : Snd Γ (.isiT a ts) := fun c X pe G h => by
  have h2 : (match gCall pe with
    | some (x, [y, z], []) => (match gTup z with
      | some ws => decide (x = ("isinstance" : Str)) && isBi c x && chkTys c ts ws && decide (ts.length ≤ 100) && notStar y && chkE a c y
      | none => false)
    | _ => false) = true := h
  clear h
  split at h2
  · rename_i x y z e
    obtain ⟨p1, p2, rfl⟩ := gCall_eq e
    split at h2
    · rename_i ws e2
      obtain ⟨k, p3, rfl⟩ := gTup_eq e2
      obtain ⟨h1, h3⟩ := and2 h2
      obtain ⟨h1, h4⟩ := and2 h1
      obtain ⟨h1, h5⟩ := and2 h1
      obtain ⟨h1, h6⟩ := and2 h1
      obtain ⟨h1, h7⟩ := and2 h1
      have ex := of_decide_eq_true h1
      subst ex
      obtain ⟨g1, m1⟩ := isBi_ok G h7
      refine snd_val (pe_isiTD (chkTys_ok G h6) (by have := of_decide_eq_true h5; rw [sz]; omega) g1 m1 (pa c X y G h3).sE h4) rfl fun σ h => ?_
      show (evE Γ a σ h).bind (fun x h1 => .guard (openD h1 x) (.ok (ts.any fun t => tyD t x) h1)) = ((evE Γ a σ h).bind fun x h1 => .guard (openD h1 x) (.ok (.bl (ts.any fun t => tyD t x)) h1)).bind trD
      cases evE Γ a σ h with
      | stuck => rfl
      | ok d h1 =>
        show Res.guard (openD h1 d) _ = (Res.guard (openD h1 d) _).bind trD
        cases openD h1 d <;> rfl
    · cases h2
  · cases h2
theorem snd_bi {Γ : Gam} {b : Bi} {es : Exs} (p : SndsR Γ es) : Snd Γ (.bi b es) := fun c X pe G h => by
  have h2 : (match gCall pe with
    | some (x, p :: ps, []) => decide (x = biName b) && (decide (b ≠ .repr) || c.rp) && isBi c x && chkEs es c (p :: ps)
    | _ => false) = true := h
  clear h
  split at h2
  · rename_i x q qs e
    obtain ⟨p1, p2, rfl⟩ := gCall_eq e
    obtain ⟨h1, h3⟩ := and2 h2
    obtain ⟨h1, h4⟩ := and2 h1
    obtain ⟨h1, h5⟩ := and2 h1
    obtain ⟨g1, m1⟩ := isBi_ok G h4
    obtain ⟨A, ns, _⟩ := p.a c X (q :: qs) G h3
    refine snd_val (pe_biD G.calm G.units (fun z => G.gd (by
      rcases Bool.or_eq_true _ _ ▸ h5 with h5 | h5
      · exact absurd z (of_decide_eq_true h5)
      · exact h5)) (of_decide_eq_true h1) g1 m1 A ns) rfl fun σ h => ?_
    show (evEs Γ es σ h).bind (fun ds h1 => (biD b ds h1).bind trD) = ((evEs Γ es σ h).bind fun ds h1 => biD b ds h1).bind trD
    cases evEs Γ es σ h <;> rfl
  · cases h2
theorem snd_meth {Γ : Gam} {m : Mt} {r : Ex} {es : Exs} (pr : Snd Γ r) (p : SndsR Γ es) : Snd Γ (.meth m r es) := fun c X pe G h => by
  have h2 : (match gMeth pe with
    | some (o, nm, p :: ps, ap, cp) => decide (nm = mtNm m) && decide ((p :: ps).length < 30) && notCall o && (ap.endLine == cp.line) && chkE r c o && chkEs es c (p :: ps)
    | _ => false) = true := h
  clear h
  split at h2
  · rename_i o nm q qs ap cp e
    have e2 := gMeth_eq e
    subst e2
    obtain ⟨h1, h3⟩ := and2 h2
    obtain ⟨h1, h4⟩ := and2 h1
    obtain ⟨h1, h5⟩ := and2 h1
    obtain ⟨h1, h6⟩ := and2 h1
    obtain ⟨h1, h7⟩ := and2 h1
    obtain ⟨A, ns, _⟩ := p.a c X (q :: qs) G h3
    exact snd_no (pe_mtD (of_decide_eq_true h1) (pr c X o G h4).sE A ns (of_decide_eq_true h7) h6 h5) (fun o vs p z => by cases z) (fun _ _ => rfl)
  · cases h2
/-- the parts of a comprehension -/
theorem comp_parts {Γ : Gam} {mu : Bool} {own : List (Str × Nat)} {tg : Tg} {it : It} {cond : Exs} {elt : Ex} (pit : ∀ (c : Ctx) (X : Cx) (pe tg : Expr), Good c Γ X → chkI it c tg pe = true → PI X tg pe (tI X.K (evI Γ it))) (pc : SndsR Γ cond) (pe : Snd Γ elt) {c : Ctx} {X : Cx} {e : Expr} (G : Good c Γ X) (h : chkE (.comp mu own tg it cond elt) c e = true) :
    ∃ pelt ptg pit ifs sc p, e = .ListComp pelt [⟨ptg, pit, ifs, 0⟩] sc p ∧ BlkOk X.N X.env.scope sc own ∧ (∀ i ∈ tgIx tg, i ∈ own.map (·.2)) ∧ notSet pit = true ∧ PI X ptg pit (tI X.K (evI Γ it)) ∧
      (∀ (s : Shared) (H : Hp) (C : Addr) (cl : List (Str × Addr)) (fp : List Addr), PG (X.blk s H sc (compEnvC sc cl C X.env) fp) ptg (tG X.K tg)) ∧
      (∀ (s : Shared) (H : Hp) (C : Addr) (cl : List (Str × Addr)) (fp : List Addr), PTs (X.blk s H sc (compEnvC sc cl C X.env) fp) ifs (tT X.K (evTs Γ cond))) ∧
      (∀ (s : Shared) (H : Hp) (C : Addr) (cl : List (Str × Addr)) (fp : List Addr), PE (X.blk s H sc (compEnvC sc cl C X.env) fp) pelt (tE X.K (evE Γ elt))) := by
  have h2 : (match gLc e with
    | some (pelt, ptg, pit, ifs, sc) => blkC c.N (mkSc c.names) sc own && (tgIx tg).all (fun i => decide (i ∈ own.map (·.2))) && chkTg (blkCtx c sc) tg ptg && notSet pit && chkI it c ptg pit && chkTs cond (blkCtx c sc) ifs && chkE elt (blkCtx c sc) pelt
    | none => false) = true := h
  clear h
  split at h2
  · rename_i pelt ptg pit' ifs sc e2
    obtain ⟨p, rfl⟩ := gLc_eq e2
    obtain ⟨h1, h3⟩ := and2 h2
    obtain ⟨h1, h4⟩ := and2 h1
    obtain ⟨h1, h5⟩ := and2 h1
    obtain ⟨h1, h6⟩ := and2 h1
    obtain ⟨h1, h7⟩ := and2 h1
    obtain ⟨h1, h8⟩ := and2 h1
    have ok := blkC_ok G h1
    have B := fun s H C cl fp => G.blk (sc := sc) ok.kind s H C cl fp
    refine ⟨pelt, ptg, pit', ifs, sc, p, rfl, ok, fun i hi => ?_, h6, pit c X pit' ptg G h5, fun s H C cl fp => chkTg_ok (B s H C cl fp) h7, fun s H C cl fp => pc.t _ _ _ (B s H C cl fp) h4, fun s H C cl fp => (pe _ _ _ (B s H C cl fp) h3).sE⟩
    have := List.all_eq_true.mp h8 i hi
    exact of_decide_eq_true this
  · cases h2
theorem snd_comp {Γ : Gam} {mu : Bool} {own : List (Str × Nat)} {tg : Tg} {it : It} {cond : Exs} {elt : Ex} (pit : ∀ (c : Ctx) (X : Cx) (pe tg : Expr), Good c Γ X → chkI it c tg pe = true → PI X tg pe (tI X.K (evI Γ it))) (pc : SndsR Γ cond) (pe : Snd Γ elt) : Snd Γ (.comp mu own tg it cond elt) := fun c X e G h => by
  obtain ⟨pelt, ptg, pit', ifs, sc, p, rfl, ok, hown, ns, hi, hg, ht, he⟩ := comp_parts pit pc pe G h
  have nd : X.N.Nodup := by rw [G.N]; exact G.nd
  refine snd_no (PE.w (pe_lc G.calm nd hi ok hg ht he (notSet_ok ns)) fun σ H Q q => tLcD hown q) (fun o vs p z => by cases z) (fun _ _ => rfl)
theorem snds_nil (Γ : Gam) : SndsR Γ .nil where
  a := fun c X ps G h => by
    cases ps with
    | nil => exact ⟨pa_nilD, rfl, fun σ h ds h' e => by cases e; rfl⟩
    | cons a b => exact Bool.noConfusion (show false = true from h)
  k := fun c X ps G h => by
    cases ps with
    | nil => exact ⟨pk_nilD, fun σ h ds h' e => by cases e; rfl⟩
    | cons a b => exact Bool.noConfusion (show false = true from h)
  t := fun c X ps G h => by
    cases ps with
    | nil => exact pts_nilD
    | cons a b => exact Bool.noConfusion (show false = true from h)
theorem evEs_len {Γ : Gam} {e : Ex} {es : Exs} {n : Nat} (hn : ∀ σ h ds h', evEs Γ es σ h = .ok ds h' → ds.length = n) : ∀ σ h ds h', evEs Γ (.cons e es) σ h = .ok ds h' → ds.length = n + 1 := by
  intro σ h ds h' q
  have q : ((evE Γ e σ h).bind fun x h1 => (evEs Γ es σ h1).bind fun xs h2 => Res.ok (x :: xs) h2) = .ok ds h' := q
  cases e1 : evE Γ e σ h with
  | stuck => rw [e1] at q; cases q
  | ok d h1 =>
    rw [e1, Res.bind_ok] at q
    cases e2 : evEs Γ es σ h1 with
    | stuck => rw [e2] at q; cases q
    | ok xs h2 =>
      rw [e2, Res.bind_ok] at q
      cases q
      rw [List.length_cons, hn _ _ _ _ e2]
theorem snds_cons {Γ : Gam} {e : Ex} {es : Exs} (p : Snd Γ e) (ps : SndsR Γ es) : SndsR Γ (.cons e es) where
  a := fun c X qs G h => by
    cases qs with
    | nil => exact Bool.noConfusion (show false = true from h)
    | cons q qs =>
      have h : (notStar q && chkE e c q && chkEs es c qs) = true := h
      obtain ⟨h1, h3⟩ := and2 h
      obtain ⟨h1, h4⟩ := and2 h1
      obtain ⟨A, ns, l⟩ := ps.a c X qs G h3
      refine ⟨pa_consD (p c X q G h4).sE A h1, ?_, evEs_len l⟩
      show (notStar q && noStars qs) = true
      rw [h1, ns]
      rfl
  k := fun c X qs G h => by
    cases qs with
    | nil => exact Bool.noConfusion (show false = true from h)
    | cons q qs =>
      have h : (chkE e c q.value && chkKs es c qs) = true := h
      obtain ⟨h1, h3⟩ := and2 h
      obtain ⟨A, l⟩ := ps.k c X qs G h3
      obtain ⟨nm, v, kp⟩ := q
      exact ⟨pk_consD (p c X v G h1).sE A, evEs_len l⟩
  t := fun c X qs G h => by
    match es, qs, h with
    | .nil, [q], h => exact pts_one (p c X q G h).sT
    | .nil, [], h => exact Bool.noConfusion (show false = true from h)
    | .nil, _ :: _ :: _, h => exact Bool.noConfusion (show false = true from h)
    | .cons _ _, [], h => exact Bool.noConfusion (show false = true from h)
    | .cons _ _, [_], h => exact Bool.noConfusion (show false = true from h)
    | .cons _ _, _ :: _ :: _, h => exact Bool.noConfusion (show false = true from h)
theorem snd_lenset {Γ : Gam} {a : Ex} (pa : Snd Γ a) : Snd Γ (.lenset a) := fun c X pe G h => by
  have h2 : (match gNest pe with
    | some (x, y, [z]) => decide (x = ("len" : Str)) && isBi c x && decide (y = ("set" : Str)) && isBi c y && notStar z && chkE a c z
    | _ => false) = true := h
  clear h
  split at h2
  · rename_i x y z e
    obtain ⟨p, p2, q, pos, rfl⟩ := gNest_eq e
    obtain ⟨h1, h3⟩ := and2 h2
    obtain ⟨h1, h4⟩ := and2 h1
    obtain ⟨h1, h5⟩ := and2 h1
    obtain ⟨h1, h6⟩ := and2 h1
    obtain ⟨h1, h7⟩ := and2 h1
    have ex := of_decide_eq_true h1
    have ey := of_decide_eq_true h6
    subst ex ey
    obtain ⟨g1, m1⟩ := isBi_ok G h7
    obtain ⟨g2, m2⟩ := isBi_ok G h5
    exact snd_no (pe_lensetD G.calm g1 m1 g2 m2 (pa c X z G h3).sE h4) (fun o vs p z => by cases z) (fun _ _ => rfl)
  · cases h2
theorem snd_rngs {Γ : Gam} {l : Bool} {a b : Ex} (pa : Snd Γ a) (pb : Snd Γ b) : Snd Γ (.rngs l a b) := fun c X pe G h => by
  have h2 : (match gNest pe with
    | some (x, y, [z, w]) => decide (x = if l = true then ("list" : Str) else ("tuple" : Str)) && isBi c x && decide (y = ("range" : Str)) && isBi c y && notStar z && notStar w && chkE a c z && chkE b c w
    | _ => false) = true := h
  clear h
  split at h2
  · rename_i x y z w e
    obtain ⟨p, p2, q, pos, rfl⟩ := gNest_eq e
    obtain ⟨h1, h3⟩ := and2 h2
    obtain ⟨h1, h4⟩ := and2 h1
    obtain ⟨h1, h5⟩ := and2 h1
    obtain ⟨h1, h6⟩ := and2 h1
    obtain ⟨h1, h7⟩ := and2 h1
    obtain ⟨h1, h8⟩ := and2 h1
    obtain ⟨hA, h9⟩ := and2 h1
    have ey := of_decide_eq_true h8
    have ex := of_decide_eq_true hA
    clear hA h1 h2
    subst ey
    obtain ⟨g1, m1⟩ := isBi_ok G h9
    obtain ⟨g2, m2⟩ := isBi_ok G h7
    exact snd_no (pe_rngsD ex G.calm g1 m1 g2 m2 (pa c X z G h4).sE (pb c X w G h3).sE h6 h5) (fun o vs p z => by cases z) (fun _ _ => rfl)
  · cases h2
theorem snd_dct {Γ : Gam} {kvs : List (Str × Int)} : Snd Γ (.dct kvs) := fun c X pe G h => by
  have h2 : (match gDct pe with
    | some (ks, vs) => decide (kvs ≠ []) && decide (kvs.length ≤ 15) && decide (kvs.map (·.1)).Nodup && dctB kvs ks vs
    | none => false) = true := h
  clear h
  split at h2
  · rename_i ks vs e
    obtain ⟨p, rfl⟩ := gDct_eq e
    obtain ⟨h1, h3⟩ := and2 h2
    obtain ⟨h1, h4⟩ := and2 h1
    obtain ⟨h1, h5⟩ := and2 h1
    exact snd_no (pe_dctD (dctB_ok h3) (of_decide_eq_true h1) (of_decide_eq_true h5) (of_decide_eq_true h4)) (fun o vs p z => by cases z) (fun _ _ => rfl)
  · cases h2
theorem snd_dget {Γ : Gam} {d k f : Ex} (pd : Snd Γ d) (pk : Snd Γ k) (pf : Snd Γ f) : Snd Γ (.dget d k f) := fun c X pe G h => by
  have h2 : (match gMeth pe with
    | some (o, nm, [p, q], ap, cp) => decide (nm = ("get" : Str)) && notCall o && (ap.endLine == cp.line) && notStar p && notStar q && chkE d c o && chkE k c p && chkE f c q
    | _ => false) = true := h
  clear h
  split at h2
  · rename_i o nm p q ap cp e
    have e2 := gMeth_eq e
    subst e2
    obtain ⟨h1, h3⟩ := and2 h2
    obtain ⟨h1, h4⟩ := and2 h1
    obtain ⟨h1, h5⟩ := and2 h1
    obtain ⟨h1, h6⟩ := and2 h1
    obtain ⟨h1, h7⟩ := and2 h1
    obtain ⟨h1, h8⟩ := and2 h1
    obtain ⟨h1, h9⟩ := and2 h1
    have ex := of_decide_eq_true h1
    subst ex
    exact snd_no (pe_dgetD G.units (pd c X o G h5).sE (pk c X p G h4).sE (pf c X q G h3).sE h9 h8 h7 h6) (fun o vs p z => by cases z) (fun _ _ => rfl)
  · cases h2
theorem noSl_ok {e : Expr} (h : plainIx e = true) : NoSl e := by
  intro o i
  cases e <;> first | exact Bool.noConfusion h | rfl
theorem snd_dix {Γ : Gam} {d k : Ex} (pd : Snd Γ d) (pk : Snd Γ k) : Snd Γ (.dix d k) := fun c X pe G h => by
  have h2 : (match gSub pe with
    | some (a, b) => plainIx b && chkE d c a && chkE k c b
    | none => false) = true := h
  clear h
  split at h2
  · rename_i a b e
    obtain ⟨p, rfl⟩ := gSub_eq e
    obtain ⟨h1, h3⟩ := and2 h2
    obtain ⟨h1, h4⟩ := and2 h1
    exact snd_no (pe_dixD G.units (pd c X a G h4).sE (pk c X b G h3).sE (noSl_ok h1)) (fun o vs p z => by cases z) (fun _ _ => rfl)
  · cases h2
theorem snd_fnv {Γ : Gam} {j : Nat} {x : Str} : Snd Γ (.fnv j x) := fun c X pe G h => by
  have h2 : (match gNm pe with
    | some y => decide (y = x) && decide (c.fnm[j]? = some x) && isGl c x
    | none => false) = true := h
  clear h
  split at h2
  · rename_i y e
    obtain ⟨p, rfl⟩ := gNm_eq e
    obtain ⟨h1, h3⟩ := and2 h2
    obtain ⟨h1, h4⟩ := and2 h1
    have ex := of_decide_eq_true h1
    subst ex
    obtain ⟨gl, db⟩ := isGl_ok G h3
    refine snd_no ?_ (fun o vs p z => by cases z) (fun _ _ => rfl)
    cases e2 : Γ.fn j with
    | none =>
      have : evE Γ (.fnv j y) = fun _ _ => .stuck := by
        funext σ h
        show (match Γ.fn j with
          | some _ => Res.ok (D.fn j y) h
          | none => Res.stuck) = _
        rw [e2]
      rw [this]
      exact pe_stuck
    | some den =>
      have : evE Γ (.fnv j y) = fun _ h => .ok (.fn j y) h := by
        funext σ h
        show (match Γ.fn j with
          | some _ => Res.ok (D.fn j y) h
          | none => Res.stuck) = _
        rw [e2]
      rw [this]
      obtain ⟨x', h5, ok⟩ := G.fn j den e2
      rw [of_decide_eq_true h4] at h5
      cases h5
      obtain ⟨g, fd, ps, k, F, hr, hm, hk, hb, hn, hns⟩ := ok.ex
      exact pe_fnvD gl hm hns db
  · cases h2
theorem snd_callv {Γ : Gam} {i : Nat} {ops : List (Nat × Str)} {es : Exs} (p : SndsR Γ es) : Snd Γ (.callv i ops es) := fun c X pe G h => by
  have h2 : (match gCall pe with
    | some (y, p :: ps, []) => decide (c.N[i]? = some y) && isVis c y && ops.all (fun o => decide (c.fnm[o.1]? = some o.2)) && chkEs es c (p :: ps)
    | _ => false) = true := h
  clear h
  split at h2
  · rename_i y q qs e
    obtain ⟨p1, p2, rfl⟩ := gCall_eq e
    obtain ⟨h1, h3⟩ := and2 h2
    obtain ⟨h1, h4⟩ := and2 h1
    obtain ⟨h1, h5⟩ := and2 h1
    obtain ⟨A, ns, _⟩ := p.a c X (q :: qs) G h3
    have v := isVis_ok G h5
    refine snd_no (pe_callvD (fun j x den hm e2 => ?_) (by rw [G.N]; exact of_decide_eq_true h1) v.1 v.2.1 v.2.2 A ns) (fun o vs p z => by cases z) (fun _ _ => rfl)
    obtain ⟨x', h6, ok⟩ := G.fn j den e2
    have z := of_decide_eq_true (List.all_eq_true.mp h4 _ hm)
    rw [z] at h6
    cases h6
    exact ok
  · cases h2
mutual
theorem snd (Γ : Gam) : ∀ e : Ex, Snd Γ e
  | .v i => snd_v Γ i
  | .non => snd_non Γ
  | .bl b => snd_bl Γ b
  | .int i => snd_int Γ i
  | .str x => snd_str Γ x
  | .glob g => snd_glob Γ g
  | .op2 _ a b => snd_op2 (snd Γ a) (snd Γ b)
  | .neg a => snd_neg (snd Γ a)
  | .cmp _ a b => snd_cmp (snd Γ a) (snd Γ b)
  | .chain _ _ a b d => snd_chain (snd Γ a) (snd Γ b) (snd Γ d)
  | .isN a => snd_isN (snd Γ a)
  | .notN a => snd_notN (snd Γ a)
  | .isB _ a _ => snd_isB (snd Γ a)
  | .rev a => snd_rev (snd Γ a)
  | .band a b => snd_band (snd Γ a) (snd Γ b)
  | .bor a b => snd_bor (snd Γ a) (snd Γ b)
  | .bnot a => snd_bnot (snd Γ a)
  | .ifx t a b => snd_ifx (snd Γ t) (snd Γ a) (snd Γ b)
  | .tup es => snd_tup (snds Γ es)
  | .lst es => snd_lst (snds Γ es)
  | .lstM es => snd_lstM (snds Γ es)
  | .ix a i => snd_ix (snd Γ a) (snd Γ i)
  | .slice a lo hi => snd_slice (snd Γ a) (sndEo Γ lo) (sndEo Γ hi)
  | .call _ es => snd_call (snds Γ es) (Classical.em _)
  | .callk _ es kes _ => snd_callk (snds Γ es) (snds Γ kes)
  | .isi a _ => snd_isi (snd Γ a)
  | .isiT a _ => snd_isiT (snd Γ a)
  | .bi _ es => snd_bi (snds Γ es)
  | .meth _ r es => snd_meth (snd Γ r) (snds Γ es)
  | .lenset a => snd_lenset (snd Γ a)
  | .rngs _ a b => snd_rngs (snd Γ a) (snd Γ b)
  | .dct _ => snd_dct
  | .dget d k f => snd_dget (snd Γ d) (snd Γ k) (snd Γ f)
  | .dix d k => snd_dix (snd Γ d) (snd Γ k)
  | .fnv _ _ => snd_fnv
  | .callv _ _ es => snd_callv (snds Γ es)
  | .comp _ _ _ it cond elt => snd_comp (sndIt Γ it) (snds Γ cond) (snd Γ elt)
theorem snds (Γ : Gam) : ∀ es : Exs, SndsR Γ es
  | .nil => snds_nil Γ
  | .cons e es => snds_cons (snd Γ e) (snds Γ es)
theorem sndEo (Γ : Gam) : ∀ o : Eo, ∀ e, o = .some e → Snd Γ e
  | .none, e, h => by cases h
  | .some a, e, h => by cases h; exact snd Γ a
theorem sndIt (Γ : Gam) : ∀ it : It, ∀ (c : Ctx) (X : Cx) (pe tg : Expr), Good c Γ X → chkI it c tg pe = true → PI X tg pe (tI X.K (evI Γ it))
  | .ex e, c, X, pe, tg, G, h => pi_seqD (snd Γ e c X pe G h).sE
  | .rvs a, c, X, pe, tg, G, h => by
    have h2 : (match gCall pe with
      | some (x, [y], []) => decide (x = ("reversed" : Str)) && isBi c x && notStar y && chkE a c y
      | _ => false) = true := h
    clear h
    split at h2
    · rename_i x y e
      obtain ⟨p1, p2, rfl⟩ := gCall_eq e
      obtain ⟨h1, h3⟩ := and2 h2
      obtain ⟨h1, h4⟩ := and2 h1
      obtain ⟨h1, h5⟩ := and2 h1
      have ex := of_decide_eq_true h1
      subst ex
      obtain ⟨g1, m1⟩ := isBi_ok G h5
      exact pi_rvsD g1 m1 (snd Γ a c X y G h3).sE h4
    · cases h2
  | .enm a, c, X, pe, tg, G, h => by
    have h2 : (match gCall pe with
      | some (x, [y], []) => (gTup tg).isSome && decide (x = ("enumerate" : Str)) && isBi c x && notStar y && chkE a c y
      | _ => false) = true := h
    clear h
    split at h2
    · rename_i x y e
      obtain ⟨p1, p2, rfl⟩ := gCall_eq e
      obtain ⟨h1, h3⟩ := and2 h2
      obtain ⟨h1, h4⟩ := and2 h1
      obtain ⟨h1, h5⟩ := and2 h1
      obtain ⟨h0, h6⟩ := and2 h1
      have ex := of_decide_eq_true h6
      subst ex
      obtain ⟨es, et⟩ := Option.isSome_iff_exists.mp h0
      obtain ⟨k, tp, rfl⟩ := gTup_eq et
      obtain ⟨g1, m1⟩ := isBi_ok G h5
      exact pi_enmD g1 m1 (snd Γ a c X y G h3).sE h4
    · cases h2
  | .enmT a, c, X, pe, tg, G, h => by
    have h2 : (match gCall pe with
      | some (x, [y], []) => (gTup tg).isSome && decide (x = ("enumerate" : Str)) && isBi c x && notStar y && chkE a c y
      | _ => false) = true := h
    clear h
    split at h2
    · rename_i x y e
      obtain ⟨p1, p2, rfl⟩ := gCall_eq e
      obtain ⟨h1, h3⟩ := and2 h2
      obtain ⟨h1, h4⟩ := and2 h1
      obtain ⟨h1, h5⟩ := and2 h1
      obtain ⟨h0, h6⟩ := and2 h1
      have ex := of_decide_eq_true h6
      subst ex
      obtain ⟨es, et⟩ := Option.isSome_iff_exists.mp h0
      obtain ⟨k, tp, rfl⟩ := gTup_eq et
      obtain ⟨g1, m1⟩ := isBi_ok G h5
      exact pi_enmTD g1 m1 (snd Γ a c X y G h3).sE h4
    · cases h2
  | .sgn e, c, X, pe, tg, G, h => pi_sgnD (snd Γ e c X pe G h).sE
  | .zp a b, c, X, pe, tg, G, h => by
    have h2 : (match gCall pe with
      | some (x, [y, z], []) => (gTup tg).isSome && decide (x = ("zip" : Str)) && isBi c x && notStar y && notStar z && chkE a c y && chkE b c z
      | _ => false) = true := h
    clear h
    split at h2
    · rename_i x y z e
      obtain ⟨p1, p2, rfl⟩ := gCall_eq e
      obtain ⟨h1, h3⟩ := and2 h2
      obtain ⟨h1, h4⟩ := and2 h1
      obtain ⟨h1, h5⟩ := and2 h1
      obtain ⟨h1, h6⟩ := and2 h1
      obtain ⟨h1, h7⟩ := and2 h1
      obtain ⟨h0, h8⟩ := and2 h1
      have ex := of_decide_eq_true h8
      subst ex
      obtain ⟨es, et⟩ := Option.isSome_iff_exists.mp h0
      obtain ⟨k, tp, rfl⟩ := gTup_eq et
      obtain ⟨g1, m1⟩ := isBi_ok G h7
      exact pi_zpD g1 m1 (snd Γ a c X y G h4).sE (snd Γ b c X z G h3).sE h6 h5
    · cases h2
  | .rng1 a, c, X, pe, tg, G, h => by
    have h2 : (match gCall pe with
      | some (x, [y], []) => decide (x = ("range" : Str)) && isBi c x && notStar y && chkE a c y
      | _ => false) = true := h
    clear h
    split at h2
    · rename_i x y e
      obtain ⟨p1, p2, rfl⟩ := gCall_eq e
      obtain ⟨h1, h3⟩ := and2 h2
      obtain ⟨h1, h4⟩ := and2 h1
      obtain ⟨h1, h5⟩ := and2 h1
      have ex := of_decide_eq_true h1
      subst ex
      obtain ⟨g1, m1⟩ := isBi_ok G h5
      exact pi_rng1D g1 m1 (snd Γ a c X y G h3).sE h4
    · cases h2
  | .rng2 a b, c, X, pe, tg, G, h => by
    have h2 : (match gCall pe with
      | some (x, [y, z], []) => decide (x = ("range" : Str)) && isBi c x && notStar y && notStar z && chkE a c y && chkE b c z
      | _ => false) = true := h
    clear h
    split at h2
    · rename_i x y z e
      obtain ⟨p1, p2, rfl⟩ := gCall_eq e
      obtain ⟨h1, h3⟩ := and2 h2
      obtain ⟨h1, h4⟩ := and2 h1
      obtain ⟨h1, h5⟩ := and2 h1
      obtain ⟨h1, h6⟩ := and2 h1
      obtain ⟨h1, h7⟩ := and2 h1
      have ex := of_decide_eq_true h1
      subst ex
      obtain ⟨g1, m1⟩ := isBi_ok G h7
      exact pi_rng2D g1 m1 (snd Γ a c X y G h4).sE (snd Γ b c X z G h3).sE h6 h5
    · cases h2
end

/-! Mini 14: statements. -/

structure PR (K : PySem.W.Frag) (h : Hm) (ρ : List Addr) (H : Hp) (P : Po) (D : Ends) : Prop where
  nx : ∀ σ' h' σV' H' ρ', SR K σ' h' ρ' σV' H' → Kp h ρ H h' ρ' H' → P.nx σ' h' → D.nx σV' H'
  bk : ∀ σ' h' σV' H' ρ', SR K σ' h' ρ' σV' H' → Kp h ρ H h' ρ' H' → P.bk σ' h' → D.bk σV' H'
  ct : ∀ σ' h' σV' H' ρ', SR K σ' h' ρ' σV' H' → Kp h ρ H h' ρ' H' → P.ct σ' h' → D.ct σV' H'
  rt : ∀ d h' v H' ρ', HR K h' ρ' H' → Kp h ρ H h' ρ' H' → Rel K h' ρ' H' d v → P.rt d h' → D.rt v H'
theorem PR.step {K : PySem.W.Frag} {h h1 : Hm} {ρ ρ1 : List Addr} {H H1 : Hp} {P : Po} {D : Ends} (p : PR K h ρ H P D) (k : Kp h ρ H h1 ρ1 H1) : PR K h1 ρ1 H1 P D :=
  ⟨fun _ _ _ _ _ s k' q => p.nx _ _ _ _ _ s (k.trans k') q, fun _ _ _ _ _ s k' q => p.bk _ _ _ _ _ s (k.trans k') q, fun _ _ _ _ _ s k' q => p.ct _ _ _ _ _ s (k.trans k') q, fun _ _ _ _ _ s k' r q => p.rt _ _ _ _ _ s (k.trans k') r q⟩
def tS (K : PySem.W.Frag) (f : Sg → Hm → Po → Prop) : TS := fun D σV H => ∃ σ h ρ P, SR K σ h ρ σV H ∧ f σ h P ∧ PR K h ρ H P D

section
variable {K : PySem.W.Frag} {σ : Sg} {h h' : Hm} {ρ ρ' : List Addr} {σV : L2.St} {H H' : Hp}
theorem tE_wp {f : Sg → Hm → Res D} {R : D → Hm → Prop} {Q : VK} (s : SR K σ h ρ σV H) (w : (f σ h).wp R)
    (c : ∀ d h' v H' ρ', SR K σ h' ρ' σV H' → Kp h ρ H h' ρ' H' → Rel K h' ρ' H' d v → R d h' → Q v H') : tE K f σV H Q :=
  ⟨σ, h, ρ, s, Res.wp_mono w fun d h' q v H' ρ' s' k' r' => c d h' v H' ρ' s' k' r' q⟩
theorem tT_wp {f : Sg → Hm → Res Bool} {R : Bool → Hm → Prop} {Q : Bool → Hp → Prop} (s : SR K σ h ρ σV H) (w : (f σ h).wp R)
    (c : ∀ b h' H' ρ', SR K σ h' ρ' σV H' → Kp h ρ H h' ρ' H' → R b h' → Q b H') : tT K f σV H Q :=
  ⟨σ, h, ρ, s, Res.wp_mono w fun b h' q H' ρ' s' k' => c b h' H' ρ' s' k' q⟩
end

section
variable {X : Cx} {pos : Pos}
/-! ### the small ones -/
def notComp : Expr → Bool
  | .ListComp .. => false
  | .SetComp .. => false
  | .DictComp .. => false
  | _ => true
theorem swaps_no {e : Expr} {t : Option Expr} {l : Nat} {env : Env} (h : notComp e = true) : swapsWith e t l env = pure false := by
  cases e <;> first | exact Bool.noConfusion h | rfl
theorem swaps_sole {e : Expr} {t : Expr} {l : Nat} {env : Env} (h : gNm t = none) : swapsWithSole [t] e l env = pure false := by
  cases t <;> first | (exact absurd h (Option.some_ne_none _)) | (cases e <;> rfl)
def swB (sc : Scope) (p : Pos) (t : Str) (tp : Pos) (names : List (Str × NameKind)) : Bool :=
  decide (names.lookup t = some .local) && tp.line == p.line && !(sc.names.any fun (n, k) => n == t && (k == .local || k == .cell))
theorem swaps_lc {elt : Expr} {gs : List Comprehension} {sc : Scope} {p tp : Pos} {t : Str} {l : Nat} (hk : X.env.scope.kind = .function) : swapsWith (.ListComp elt gs sc p) (some (.Name t tp)) l X.env = pure (swB sc p t tp X.env.scope.names) := by
  have h1 : X.env.blockKind = .function := by
    unfold Env.blockKind
    rw [hk]
    rfl
  show pure (X.env.blockKind == .function && X.env.kindOf t == some .local && tp.line == p.line && !(sc.names.any fun (n, k) => n == t && (k == .local || k == .cell))) = _
  unfold swB
  rw [h1]
  have : (X.env.kindOf t == some .local) = decide (X.env.scope.names.lookup t = some .local) := by
    show (X.env.scope.names.lookup t == some NameKind.local) = _
    rw [Bool.beq_eq_decide_eq]
  rw [this]
  simp
/-- x = e -/
theorem ps_setD {i : Nat} {x : Str} {e : Expr} {p2 : Pos} {f : Sg → Hm → Res D} (hN : X.N.Nodup) (hi : X.N[i]? = some x) (hx : L2.Loc X.env.scope x) (hf : X.fn x = true ∨ X.env.scope.names.lookup x = some .local) (he : PE X e (tE X.K f)) (hs : swapsWith e (some (.Name x p2)) pos.line X.env = pure false) :
    PS X (.Assign [.Name x p2] e pos) (tS X.K fun σ h P => (f σ h).wp fun d h1 => P.nx (σ.set i (some d)) h1) := by
  refine PS.w (ps_set hN hi hx he hs hf) fun D σV H ⟨σ, h, ρ, P, s, q, pr⟩ => ?_
  exact tE_wp s q fun d h1 v H1 ρ1 s1 k1 r1 q => pr.nx _ _ _ _ _ ⟨s1.hp, s1.sl.set r1⟩ k1 q
theorem ps_exD {e : Expr} {f : Sg → Hm → Res D} (he : PE X e (tE X.K f)) (hs : notComp e = true) : PS X (.Expr e pos) (tS X.K fun σ h P => (f σ h).wp fun _ h1 => P.nx σ h1) := by
  refine PS.w (ps_expr he (swaps_no hs)) fun D σV H ⟨σ, h, ρ, P, s, q, pr⟩ => ?_
  exact tE_wp s q fun d h1 v H1 ρ1 s1 k1 r1 q => pr.nx _ _ _ _ _ s1 k1 q
theorem ps_retD {e : Expr} {f : Sg → Hm → Res D} (he : PE X e (tE X.K f)) : PS X (.Return (some e) pos) (tS X.K fun σ h P => (f σ h).wp P.rt) := by
  refine PS.w (ps_ret he) fun D σV H ⟨σ, h, ρ, P, s, q, pr⟩ => ?_
  exact tE_wp s q fun d h1 v H1 ρ1 s1 k1 r1 q => pr.rt _ _ _ _ _ s1.hp k1 r1 q
theorem ps_ifD {c : Expr} {a b : List Stmt} {fc : Sg → Hm → Res Bool} {fa fb : Sg → Hm → Po → Prop} (hc : PT X c (tT X.K fc)) (ha : PSs X a (tS X.K fa)) (hb : PSs X b (tS X.K fb)) :
    PS X (.If c a b pos) (tS X.K fun σ h P => (fc σ h).wp fun t h1 => match t with
    | true => fa σ h1 P
    | false => fb σ h1 P) := by
  refine PS.w (ps_if hc ha hb) fun D σV H ⟨σ, h, ρ, P, s, q, pr⟩ => ?_
  refine tT_wp s q fun t h1 H1 ρ1 s1 k1 q => ?_
  cases t with
  | true => exact iteT ⟨σ, h1, ρ1, P, s1, q, pr.step k1⟩
  | false => exact iteF ⟨σ, h1, ρ1, P, s1, q, pr.step k1⟩
theorem ps_passD : PS X (.Pass pos) (tS X.K fun σ h P => P.nx σ h) := PS.w ps_pass fun D σV H ⟨σ, h, ρ, P, s, q, pr⟩ => pr.nx _ _ _ _ _ s Kps.refl q
theorem ps_brkD : PS X (.Break pos) (tS X.K fun σ h P => P.bk σ h) := PS.w ps_break fun D σV H ⟨σ, h, ρ, P, s, q, pr⟩ => pr.bk _ _ _ _ _ s Kps.refl q
theorem ps_contD : PS X (.Continue pos) (tS X.K fun σ h P => P.ct σ h) := PS.w ps_continue fun D σV H ⟨σ, h, ρ, P, s, q, pr⟩ => pr.ct _ _ _ _ _ s Kps.refl q
theorem ps_nevD {st : Stmt} : PS X st (tS X.K fun _ _ _ => False) := ⟨fun _ _ _ _ _ _ ⟨_, _, _, _, _, q, _⟩ => False.elim q⟩
theorem pss_nilD : PSs X [] (tS X.K fun σ h P => P.nx σ h) := PSs.w pss_nil fun D σV H ⟨σ, h, ρ, P, s, q, pr⟩ => pr.nx _ _ _ _ _ s Kps.refl q
theorem pss_consD {st : Stmt} {rest : List Stmt} {f g : Sg → Hm → Po → Prop} (h1 : PS X st (tS X.K f)) (h2 : PSs X rest (tS X.K g)) : PSs X (st :: rest) (tS X.K fun σ h P => f σ h { P with nx := fun σ' h' => g σ' h' P }) := by
  refine PSs.w (pss_cons h1 h2) fun D σV H ⟨σ, h, ρ, P, s, q, pr⟩ => ?_
  exact ⟨σ, h, ρ, _, s, q, ⟨fun σ' h' σV' H' ρ' s' k' q' => ⟨σ', h', ρ', P, s', q', pr.step k'⟩, pr.bk, pr.ct, pr.rt⟩⟩
/-- a shared list is closed -/
theorem pss_freezeD {sts : List Stmt} {i : Nat} {g : Sg → Hm → Po → Prop} (h2 : PSs X sts (tS X.K g)) : PSs X sts (tS X.K fun σ h P => match σ[i]? with
    | some (some (.ref n)) => match listOf? h n with
      | some xs => g (σ.set i (some (.lst xs))) (h.set n .gone) P
      | none => False
    | _ => False) := by
  refine PSs.w h2 fun D σV H ⟨σ, h, ρ, P, s, q, pr⟩ => ?_
  dsimp only at q
  split at q
  · rename_i n e1
    split at q
    · rename_i xs e2
      obtain ⟨v, e3, r⟩ := s.sl.get i _ e1
      cases r with
      | @ref _ a ea =>
        have eh := listOf_eq e2
        obtain ⟨hr, rl⟩ := s.hp.close ea eh
        have kc : Kp h ρ H (h.set n .gone) ρ H := Kp.close ea eh
        have sl : SlR X.K H ρ (Mu ρ (h.set n .gone)) (σ.set i (some (.lst xs))) σV := by
          have z := (s.sl.mono kc).set (i := i) rl
          have : σV.set i (some (V.ref a)) = σV := by
            apply List.ext_getElem?
            intro j
            rw [List.getElem?_set]
            split
            · rename_i hj
              subst hj
              split
              · exact e3.symm
              · rename_i hl
                rw [List.getElem?_eq_none (by omega)]
            · rfl
          rw [this] at z
          exact z
        exact ⟨_, _, ρ, P, ⟨hr, sl⟩, q, pr.step kc⟩
    · exact False.elim q
  · exact False.elim q

/-! ### targets of several names -/
theorem swapped_no {ts : List Expr} {k : Nat} {p : Pos} {e : Expr} {env : Env} (h : gTup e = none) : swappedStores [.Tuple ts k p] e env = pure none := by
  cases e <;> first | (exact absurd h (Option.some_ne_none _)) | rfl
theorem ps_asgD {is : List Nat} {es : List Expr} {k : Nat} {p : Pos} {e : Expr} {f : Sg → Hm → Res D} (hN : X.N.Nodup) (hc : X.calm = true) (ht : NmT X is es) (he : PE X e (tE X.K f)) (hw : swappedStores [.Tuple es k p] e X.env = pure none) :
    PS X (.Assign [.Tuple es k p] e pos) (tS X.K fun σ h P => (f σ h).wp fun d h1 => match asgD (.tup is) d σ with
    | some σ' => P.nx σ' h1
    | none => False) := by
  refine PS.w (ps_asg he (pg_tupD hN hc ht) (swaps_sole rfl) hw (by rfl)) fun D σV H ⟨σ, h, ρ, P, s, q, pr⟩ => ?_
  refine tE_wp s q fun d h1 v H1 ρ1 s1 k1 r1 q => ?_
  cases ea : asgD (.tup is) d σ with
  | none => rw [ea] at q; exact False.elim q
  | some σ' =>
    rw [ea] at q
    exact ⟨σ, h1, ρ1, d, σ', s1, r1, ea, fun σV' s2 _ => pr.nx _ _ _ _ _ s2 k1 q⟩
/-- a, b = x, y -/
def parB (names : List (Str × NameKind)) (x y : Str) (px py : Pos) (a b : Expr) : Bool :=
  decide (names.lookup x = some .local) && decide (names.lookup y = some .local) && (py.line == px.line) && !(x == y) && notStar a && notStar b && !([a, b].all (foldedForSure 8)) && !([a, b].all (constantsAlone 8))
theorem swapped_par {x y : Str} {px py pt p2 : Pos} {k k2 : Nat} {a b : Expr} (hk : X.env.scope.kind = .function) (h : parB X.env.scope.names x y px py a b = true) :
    swappedStores [.Tuple [.Name x px, .Name y py] k pt] (.Tuple [a, b] k2 p2) X.env = pure (some [x, y]) := by
  unfold parB at h
  obtain ⟨h, h8⟩ := and2 h
  obtain ⟨h, h7⟩ := and2 h
  obtain ⟨h, h6⟩ := and2 h
  obtain ⟨h, h5⟩ := and2 h
  obtain ⟨h, h4⟩ := and2 h
  obtain ⟨h, h3⟩ := and2 h
  obtain ⟨h1, h2⟩ := and2 h
  have e1 : X.env.kindOf x = some .local := of_decide_eq_true h1
  have e2 : X.env.kindOf y = some .local := of_decide_eq_true h2
  have e4 : (x == y) = false := by simpa using h4
  have e4' : (y == x) = false := by
    have : x ≠ y := by simpa using e4
    simpa using this.symm
  have e7 : ([a, b].all (foldedForSure 8)) = false := by rw [Bool.not_eq_true'] at h7; exact h7
  have e8 : ([a, b].all (constantsAlone 8)) = false := by rw [Bool.not_eq_true'] at h8; exact h8
  have bk : X.env.blockKind = .function := by
    unfold Env.blockKind
    rw [hk]
    rfl
  have st : ([a, b].any fun e => match e with | .Starred .. => true | _ => false) = false := by
    have q : ∀ e, notStar e = true → (match e with | Expr.Starred .. => true | _ => false) = false := by
      intro e h
      cases e <;> first | exact Bool.noConfusion h | rfl
    simp [List.any_cons, q a h5, q b h6]
  have l3 : py.line = px.line := by simpa using h3
  have n1 : (X.env.kindOf x == some NameKind.local && px.line == px.line) = true := by rw [e1]; simp
  have n2 : (X.env.kindOf y == some NameKind.local && py.line == px.line) = true := by rw [e2, l3]; simp
  have nd : ([x, y] : List Str).eraseDups = [x, y] := by
    rw [List.eraseDups_cons]
    simp [List.filter_cons, e4', List.eraseDups_cons]
  have fm : ([Expr.Name x px, Expr.Name y py].filterMap fun e => match e with
    | .Name id pos => if (X.env.kindOf id == some NameKind.local && pos.line == px.line) = true then some id else none
    | _ => none) = [x, y] := by
    simp only [List.filterMap_cons, List.filterMap_nil, n1, n2, if_true]
  unfold swappedStores
  simp only [bk, fm, nd, st, e7, e8, List.length_cons, List.length_nil, List.head?_cons, Option.map_some, Option.getD_some, Expr.pos]
  refine Eq.trans (if_neg (by decide)) ?_
  refine Eq.trans (if_neg fun z => ?_) ?_
  · rw [List.any_eq_true] at z
    obtain ⟨e, he, hz⟩ := z
    have hn : notStar e = true := by
      rcases List.mem_cons.mp he with rfl | he
      · exact h5
      · rcases List.mem_cons.mp he with rfl | he
        · exact h6
        · cases he
    split at hz
    · exact Bool.noConfusion hn
    · cases hz
  · simp only [List.filterMap_cons, List.filterMap_nil, n1, n2, if_true, nd]
    simp
theorem ps_parD {i j : Nat} {x y : Str} {a b : Expr} {px py pt p2 : Pos} {k k2 : Nat} {fa fb : Sg → Hm → Res D} (hN : X.N.Nodup) (hk : X.env.scope.kind = .function) (hc : X.calm = true) (hi : X.N[i]? = some x) (hj : X.N[j]? = some y) (hij : i ≠ j) (h : parB X.env.scope.names x y px py a b = true)
    (ha : PE X a (tE X.K fa)) (hb : PE X b (tE X.K fb)) :
    PS X (.Assign [.Tuple [.Name x px, .Name y py] k pt] (.Tuple [a, b] k2 p2) pos) (tS X.K fun σ h P => (fa σ h).wp fun u h1 => (fb σ h1).wp fun v h2 => P.nx ((σ.set i (some u)).set j (some v)) h2) := by
  have h' := h
  unfold parB at h'
  obtain ⟨h', _⟩ := and2 h'
  obtain ⟨h', _⟩ := and2 h'
  obtain ⟨h', h6⟩ := and2 h'
  obtain ⟨h', h5⟩ := and2 h'
  obtain ⟨h', _⟩ := and2 h'
  obtain ⟨h', _⟩ := and2 h'
  obtain ⟨h1, h2⟩ := and2 h'
  have pa : PA X [a, b] (tCons (tE X.K fa) (tCons (tE X.K fb) tNil)) := pa_cons ha (pa_cons hb pa_nil (star_cons h6)) (star_cons h5)
  refine PS.w (ps_par hc hN hi hj hij (of_decide_eq_true h1) (of_decide_eq_true h2) pa (swapped_par hk h) (swaps_sole rfl)) fun D σV H ⟨σ, h, ρ, P, s, q, pr⟩ => ?_
  refine tE_wp s q fun d h1 v H1 ρ1 s1 k1 r1 q => ?_
  refine tE_wp s1 q fun e h2 w H2 ρ2 s2 k2 r2 q => ?_
  exact ⟨v, w, rfl, pr.nx _ _ _ _ _ ⟨s2.hp, (s2.sl.set (r1.mono k2)).set r2⟩ (k1.trans k2) q⟩
/-- a, b, c = x, y, z -/
def parB3 (names : List (Str × NameKind)) (x y z : Str) (px py pz : Pos) (a b d : Expr) : Bool :=
  decide (names.lookup x = some .local) && decide (names.lookup y = some .local) && decide (names.lookup z = some .local) && (py.line == px.line) && (pz.line == px.line) && !(x == y) && !(x == z) && !(y == z) && notStar a && notStar b && notStar d && !([a, b, d].all (foldedForSure 8)) && !([a, b, d].all (constantsAlone 8))
theorem swapped_par3 {x y z : Str} {px py pz pt p2 : Pos} {k k2 : Nat} {a b d : Expr} (hk : X.env.scope.kind = .function) (h : parB3 X.env.scope.names x y z px py pz a b d = true) :
    swappedStores [.Tuple [.Name x px, .Name y py, .Name z pz] k pt] (.Tuple [a, b, d] k2 p2) X.env = pure (some [x, y, z]) := by
  unfold parB3 at h
  obtain ⟨h, h13⟩ := and2 h
  obtain ⟨h, h12⟩ := and2 h
  obtain ⟨h, h11⟩ := and2 h
  obtain ⟨h, h10⟩ := and2 h
  obtain ⟨h, h9⟩ := and2 h
  obtain ⟨h, h8⟩ := and2 h
  obtain ⟨h, h7⟩ := and2 h
  obtain ⟨h, h6⟩ := and2 h
  obtain ⟨h, h5⟩ := and2 h
  obtain ⟨h, h4⟩ := and2 h
  obtain ⟨h, h3⟩ := and2 h
  obtain ⟨h1, h2⟩ := and2 h
  have e1 : X.env.kindOf x = some .local := of_decide_eq_true h1
  have e2 : X.env.kindOf y = some .local := of_decide_eq_true h2
  have e3 : X.env.kindOf z = some .local := of_decide_eq_true h3
  have e6 : x ≠ y := by simpa using h6
  have e7 : x ≠ z := by simpa using h7
  have e8 : y ≠ z := by simpa using h8
  have f1 : (y == x) = false := by simpa using e6.symm
  have f2 : (z == x) = false := by simpa using e7.symm
  have f3 : (z == y) = false := by simpa using e8.symm
  have g1 : ([a, b, d].all (foldedForSure 8)) = false := by rw [Bool.not_eq_true'] at h12; exact h12
  have g2 : ([a, b, d].all (constantsAlone 8)) = false := by rw [Bool.not_eq_true'] at h13; exact h13
  have bk : X.env.blockKind = .function := by
    unfold Env.blockKind
    rw [hk]
    rfl
  have l4 : py.line = px.line := by simpa using h4
  have l5 : pz.line = px.line := by simpa using h5
  have n1 : (X.env.kindOf x == some NameKind.local && px.line == px.line) = true := by rw [e1]; simp
  have n2 : (X.env.kindOf y == some NameKind.local && py.line == px.line) = true := by rw [e2, l4]; simp
  have n3 : (X.env.kindOf z == some NameKind.local && pz.line == px.line) = true := by rw [e3, l5]; simp
  have nd : ([x, y, z] : List Str).eraseDups = [x, y, z] := by
    rw [List.eraseDups_cons]
    simp [List.filter_cons, f1, f2, f3, List.eraseDups_cons]
  unfold swappedStores
  simp only [bk, nd, g1, g2, List.length_cons, List.length_nil, List.head?_cons, Option.map_some, Option.getD_some, Expr.pos]
  refine Eq.trans (if_neg (by decide)) ?_
  refine Eq.trans (if_neg fun q => ?_) ?_
  · rw [List.any_eq_true] at q
    obtain ⟨e, he, hz⟩ := q
    have hn : notStar e = true := by
      rcases List.mem_cons.mp he with rfl | he
      · exact h9
      · rcases List.mem_cons.mp he with rfl | he
        · exact h10
        · rcases List.mem_cons.mp he with rfl | he
          · exact h11
          · cases he
    split at hz
    · exact Bool.noConfusion hn
    · cases hz
  · simp only [List.filterMap_cons, List.filterMap_nil, n1, n2, n3, if_true, nd]
    simp
theorem ps_par3D {i j l : Nat} {x y z : Str} {a b d : Expr} {px py pz pt p2 : Pos} {k k2 : Nat} {fa fb fd : Sg → Hm → Res D} (hN : X.N.Nodup) (hk : X.env.scope.kind = .function) (hc : X.calm = true) (hi : X.N[i]? = some x) (hj : X.N[j]? = some y) (hl : X.N[l]? = some z) (hij : i ≠ j) (hil : i ≠ l) (hjl : j ≠ l) (h : parB3 X.env.scope.names x y z px py pz a b d = true)
    (ha : PE X a (tE X.K fa)) (hb : PE X b (tE X.K fb)) (hd : PE X d (tE X.K fd)) :
    PS X (.Assign [.Tuple [.Name x px, .Name y py, .Name z pz] k pt] (.Tuple [a, b, d] k2 p2) pos) (tS X.K fun σ h P => (fa σ h).wp fun u h1 => (fb σ h1).wp fun v h2 => (fd σ h2).wp fun w h3 => P.nx (((σ.set i (some u)).set j (some v)).set l (some w)) h3) := by
  have h' := h
  unfold parB3 at h'
  obtain ⟨h', _⟩ := and2 h'
  obtain ⟨h', _⟩ := and2 h'
  obtain ⟨h', h11⟩ := and2 h'
  obtain ⟨h', h10⟩ := and2 h'
  obtain ⟨h', h9⟩ := and2 h'
  obtain ⟨h', _⟩ := and2 h'
  obtain ⟨h', _⟩ := and2 h'
  obtain ⟨h', _⟩ := and2 h'
  obtain ⟨h', _⟩ := and2 h'
  obtain ⟨h', _⟩ := and2 h'
  obtain ⟨h', h3⟩ := and2 h'
  obtain ⟨h1, h2⟩ := and2 h'
  have pa : PA X [a, b, d] (tCons (tE X.K fa) (tCons (tE X.K fb) (tCons (tE X.K fd) tNil))) := pa_cons ha (pa_cons hb (pa_cons hd pa_nil (star_cons h11)) (star_cons h10)) (star_cons h9)
  refine PS.w (ps_par3 hc hN hi hj hl hij hil hjl (of_decide_eq_true h1) (of_decide_eq_true h2) (of_decide_eq_true h3) pa (swapped_par3 hk h) (swaps_sole rfl)) fun D σV H ⟨σ, h, ρ, P, s, q, pr⟩ => ?_
  refine tE_wp s q fun d1 h1 v H1 ρ1 s1 k1 r1 q => ?_
  refine tE_wp s1 q fun d2 h2 w H2 ρ2 s2 k2 r2 q => ?_
  refine tE_wp s2 q fun d3 h3 u H3 ρ3 s3 k3 r3 q => ?_
  exact ⟨v, w, u, rfl, pr.nx _ _ _ _ _ ⟨s3.hp, ((s3.sl.set (r1.mono (k2.trans k3))).set (r2.mono k3)).set r3⟩ ((k1.trans k2).trans k3) q⟩
/-- o[i] = e -/
theorem ps_setixD {o i e : Expr} {p : Pos} {fo fi fe : Sg → Hm → Res D} (ho : PE X o (tE X.K fo)) (hi : PE X i (tE X.K fi)) (he : PE X e (tE X.K fe)) (hpi : plainIx i = true) :
    PS X (.Assign [.Subscript o i p] e pos) (tS X.K fun σ h P => (fe σ h).wp fun d h1 => (fo σ h1).wp fun x h2 => (fi σ h2).wp fun y h3 => match x, y with
    | .ref n, .int k => match listOf? h3 n with
      | some xs => match ixN xs.length k with
        | some j => P.nx σ (h3.set n (.lst (xs.set j d)))
        | none => False
      | none => False
    | _, _ => False) := by
  refine PS.w (ps_asg he (pg_sub ho hi set_list (by intro v; cases i <;> first | exact Bool.noConfusion hpi | rfl)) (swaps_sole rfl) (by cases e <;> rfl) (by rfl)) fun D σV H ⟨σ, h, ρ, P, s, q, pr⟩ => ?_
  refine tE_wp s q fun d h1 v H1 ρ1 s1 k1 r1 q => ?_
  refine tE_wp s1 q fun x h2 w H2 ρ2 s2 k2 r2 q => ?_
  refine tE_wp s2 q fun y h3 z H3 ρ3 s3 k3 r3 q => ?_
  cases x with
  | ref n =>
    cases y with
    | int k =>
      have q : (match listOf? h3 n with
        | some xs => match ixN xs.length k with
          | some j => P.nx σ (h3.set n (.lst (xs.set j d)))
          | none => False
        | none => False) := q
      cases e2 : listOf? h3 n with
      | none => rw [e2] at q; exact False.elim q
      | some xs =>
        rw [e2] at q
        dsimp only at q
        cases e3 : ixN xs.length k with
        | none => rw [e3] at q; exact False.elim q
        | some j =>
          rw [e3] at q
          have r2' := RD.mono k3 r2
          cases r2' with
          | @ref _ a ea =>
            obtain ⟨vs, h4, h5⟩ := s3.hp.ref ea e2
            have eh := listOf_eq e2
            have r4 : Rels X.K h3 ρ3 H3 (xs.set j d) (vs.set j v) := h5.set j (r1.mono (k2.trans k3))
            have kw : Kp h3 ρ3 H3 (h3.set n (.lst (xs.set j d))) ρ3 (upd H3 a (.lst (vs.set j v))) := Kp.write ea eh
            exact ⟨a, vs, k, j, rfl, rI_int r3, h4, by rw [← h5.length]; exact e3, pr.nx _ _ _ _ _ (s3.of (s3.hp.write ea eh r4) kw) (((k1.trans k2).trans k3).trans kw) q⟩
    | _ => exact False.elim q
  | _ => cases y <;> exact False.elim q
/-! ### loops -/
theorem ps_forD {tg iter : Expr} {body : List Stmt} {tgD : Tg} {fi : Sg → Hm → Res (List D)} {fb : Sg → Hm → Po → Prop} (hp : PassesOwn (model X.prog X.w) X.A X.env X.xe) (hc : X.calm = true) (hi : PI X tg iter (tI X.K fi)) (hg : PG X tg (tG X.K tgD)) (hb : PSs X body (tS X.K fb)) (hs : notSet iter = true) :
    PS X (.For tg iter body [] pos) (tS X.K fun σ h P => (fi σ h).wp fun xs h1 => wpFor (fun x σ1 h2 P1 => match asgD tgD x σ1 with
    | some σ2 => fb σ2 h2 P1
    | none => False) xs σ h1 P) := by
  refine PS.w (ps_for hp hc hi hg hb (notSet_ok hs)) fun D σV H ⟨σ, h, ρ, P, s, q, pr⟩ => ?_
  refine ⟨σ, h, ρ, s, Res.wp_mono q fun xs h1 q J H1 ρ1 s1 k1 it => ?_⟩
  generalize hf : (fun (x : Mn.D) (σ1 : Sg) (h2 : Hm) (P1 : Po) => match asgD tgD x σ1 with
    | some σ2 => fb σ2 h2 P1
    | none => False) = f at q
  refine ⟨fun i m σV2 H2 => ∃ σ h2 ρ2, SR X.K σ h2 ρ2 σV2 H2 ∧ Kp h1 ρ1 H1 h2 ρ2 H2 ∧ m = xs.length - i ∧ i ≤ xs.length ∧ wpFor f (xs.drop i) σ h2 P, ⟨xs.length, σ, h1, ρ1, s1, Kps.refl, by simp, Nat.zero_le _, by rw [List.drop_zero]; exact q⟩, ?_⟩
  rintro i m σV2 H2 ⟨σ2, h2, ρ2, s2, k2, rfl, hi, q⟩
  obtain ⟨it1, it2⟩ := it h2 ρ2 H2 s2.hp k2
  by_cases hlt : i < xs.length
  · have ex : xs[i]? = some xs[i] := List.getElem?_eq_getElem hlt
    rw [List.drop_eq_getElem_cons hlt] at q
    obtain ⟨go, yl⟩ := it1 i _ ex
    refine .inr ⟨go, _, fun σ' H' n => ⟨xs.length - (i + 1), by omega, n⟩, fun x H3 y => ?_⟩
    obtain ⟨r3, k3, rx⟩ := yl x H3 y
    unfold wpFor at q
    have q : (match asgD tgD xs[i] σ2 with
      | some σ2 => fb σ2 h2 { P with nx := fun σ' h' => wpFor f (xs.drop (i + 1)) σ' h' P, ct := fun σ' h' => wpFor f (xs.drop (i + 1)) σ' h' P, bk := P.nx }
      | none => False) := by
        rw [← hf] at q ⊢
        exact q
    cases ea : asgD tgD xs[i] σ2 with
    | none => rw [ea] at q; exact False.elim q
    | some σ3 =>
      rw [ea] at q
      refine ⟨σ2, h2, ρ2, xs[i], σ3, s2.of r3 k3, rx, ea, fun σV' s4 _ => ⟨σ3, h2, ρ2, _, s4, q, ?_⟩⟩
      have k4 := k2.trans k3
      exact ⟨fun σ' h' σV' H' ρ' s' k' q' => ⟨σ', h', ρ', s', k4.trans k', rfl, hlt, q'⟩, fun σ' h' σV' H' ρ' s' k' q' => pr.nx _ _ _ _ _ s' ((k1.trans k4).trans k') q',
        fun σ' h' σV' H' ρ' s' k' q' => ⟨σ', h', ρ', s', k4.trans k', rfl, hlt, q'⟩, fun d h' v H' ρ' s' k' r q' => pr.rt _ _ _ _ _ s' ((k1.trans k4).trans k') r q'⟩
  · have e : i = xs.length := by omega
    subst e
    rw [List.drop_length] at q
    exact .inl ⟨it2, pr.nx _ _ _ _ _ s2 (k1.trans k2) q⟩
theorem ps_whileD {c : Expr} {body : List Stmt} {fc : Sg → Hm → Res Bool} {fb : Sg → Hm → Po → Prop} (hp : PassesOwn (model X.prog X.w) X.A X.env X.xe) (hc : PT X c (tT X.K fc)) (hb : PSs X body (tS X.K fb)) :
    PS X (.While c body [] pos) (tS X.K fun σ h P => ∃ n, wpWhile fc fb n σ h P) := by
  refine PS.w (ps_while hp hc hb) fun D σV H ⟨σ, h, ρ, P, s, ⟨n, q⟩, pr⟩ => ?_
  refine ⟨fun m σV2 H2 => ∃ σ h2 ρ2, SR X.K σ h2 ρ2 σV2 H2 ∧ Kp h ρ H h2 ρ2 H2 ∧ wpWhile fc fb m σ h2 P, ⟨n, σ, h, ρ, s, Kps.refl, q⟩, ?_⟩
  rintro m σV2 H2 ⟨σ2, h2, ρ2, s2, k2, q⟩
  cases m with
  | zero => exact False.elim q
  | succ m =>
    unfold wpWhile at q
    refine tT_wp s2 q fun b h3 H3 ρ3 s3 k3 q => ?_
    have k4 := k2.trans k3
    cases b with
    | true =>
      refine iteT ⟨fun σV' H' => ∃ σ h2 ρ2, SR X.K σ h2 ρ2 σV' H' ∧ Kp h ρ H h2 ρ2 H' ∧ wpWhile fc fb m σ h2 P, fun σ' H' n => ⟨m, Nat.lt_succ_self _, n⟩, σ2, h3, ρ3, _, s3, q, ?_⟩
      exact ⟨fun σ' h' σV' H' ρ' s' k' q' => ⟨σ', h', ρ', s', k4.trans k', q'⟩, fun σ' h' σV' H' ρ' s' k' q' => pr.nx _ _ _ _ _ s' (k4.trans k') q',
        fun σ' h' σV' H' ρ' s' k' q' => ⟨σ', h', ρ', s', k4.trans k', q'⟩, fun d h' v H' ρ' s' k' r q' => pr.rt _ _ _ _ _ s' (k4.trans k') r q'⟩
    | false => exact iteF (pr.nx _ _ _ _ _ s3 k4 q)
end

/-! Mini 15: blocks of the small language are sound; a def by its body. -/

def gAsg : Stmt → Option (Expr × Expr × Pos) | .Assign [t] v p => some (t, v, p) | _ => none
def gExS : Stmt → Option Expr | .Expr e _ => some e | _ => none
def gRet : Stmt → Option Expr | .Return (some e) _ => some e | _ => none
def gIfS : Stmt → Option (Expr × List Stmt × List Stmt) | .If c a b _ => some (c, a, b) | _ => none
def gFor : Stmt → Option (Expr × Expr × List Stmt) | .For t i b [] _ => some (t, i, b) | _ => none
def gWh : Stmt → Option (Expr × List Stmt) | .While c b [] _ => some (c, b) | _ => none
def isBrk : Stmt → Bool | .Break _ => true | _ => false
def isCont : Stmt → Bool | .Continue _ => true | _ => false
def isPass : Stmt → Bool | .Pass _ => true | _ => false
def gNmP : Expr → Option (Str × Pos) | .Name x p => some (x, p) | _ => none
def gTupP : Expr → Option (List Expr × Nat × Pos) | .Tuple es k p => some (es, k, p) | _ => none
def gLcP : Expr → Option (Scope × Pos) | .ListComp _ _ sc p => some (sc, p) | _ => none
theorem gAsg_eq {s : Stmt} {t v : Expr} {p : Pos} (h : gAsg s = some (t, v, p)) : s = .Assign [t] v p := by
  cases s <;> first | cases h | skip
  rename_i ts v p
  match ts, h with
  | [t], h => cases h; rfl
theorem gExS_eq {s : Stmt} {e : Expr} (h : gExS s = some e) : ∃ p, s = .Expr e p := by
  cases s <;> first | cases h | skip
  exact ⟨_, rfl⟩
theorem gRet_eq {s : Stmt} {e : Expr} (h : gRet s = some e) : ∃ p, s = .Return (some e) p := by
  cases s <;> first | cases h | skip
  rename_i o p
  cases o <;> cases h
  exact ⟨_, rfl⟩
theorem gIfS_eq {s : Stmt} {c : Expr} {a b : List Stmt} (h : gIfS s = some (c, a, b)) : ∃ p, s = .If c a b p := by
  cases s <;> first | cases h | skip
  exact ⟨_, rfl⟩
theorem gFor_eq {s : Stmt} {t i : Expr} {b : List Stmt} (h : gFor s = some (t, i, b)) : ∃ p, s = .For t i b [] p := by
  cases s <;> first | cases h | skip
  rename_i t i b o p
  cases o <;> cases h
  exact ⟨_, rfl⟩
theorem gWh_eq {s : Stmt} {c : Expr} {b : List Stmt} (h : gWh s = some (c, b)) : ∃ p, s = .While c b [] p := by
  cases s <;> first | cases h | skip
  rename_i c b o p
  cases o <;> cases h
  exact ⟨_, rfl⟩
theorem gNmP_eq {e : Expr} {x : Str} {p : Pos} (h : gNmP e = some (x, p)) : e = .Name x p := by
  cases e <;> first | cases h | skip
  rfl
theorem gTupP_eq {e : Expr} {es : List Expr} {k : Nat} {p : Pos} (h : gTupP e = some (es, k, p)) : e = .Tuple es k p := by
  cases e <;> first | cases h | skip
  rfl

/-- a target that is no plain local name (one that a comprehension of the def reads) -/
def nonLoc (names : List (Str × NameKind)) (t : Expr) : Bool := match gNm t with
  | some x => decide (names.lookup x ≠ some .local)
  | none => false
def swNo (names : List (Str × NameKind)) (ts : List Expr) (v : Expr) : Bool := (match gTup v with | none => true | some _ => false) || !(ts.length == 2 || ts.length == 3) || ts.any (nonLoc names)
theorem swNo_ok {X : Cx} {ts : List Expr} {k : Nat} {p : Pos} {v : Expr} (h : swNo X.env.scope.names ts v = true) : swappedStores [.Tuple ts k p] v X.env = pure none := by
  cases e : gTup v with
  | none => exact swapped_no e
  | some vs =>
    obtain ⟨k2, p2, rfl⟩ := gTup_eq e
    unfold swNo at h
    rw [e] at h
    have h : (false || !(ts.length == 2 || ts.length == 3) || ts.any (nonLoc X.env.scope.names)) = true := h
    rw [Bool.false_or, Bool.or_eq_true] at h
    rcases h with h | h
    · unfold swappedStores
      simp only []
      refine if_pos ?_
      rw [h]
      rfl
    · unfold swappedStores
      simp only []
      split
      · rfl
      · split
        · rfl
        · split
          · rfl
          · rename_i hn
            exfalso
            apply hn
            rw [Bool.or_eq_true]
            left
            obtain ⟨t, ht, hz⟩ := List.any_eq_true.mp h
            have lt : ∀ (f : Expr → Option Str), f t = none → ∀ ts : List Expr, t ∈ ts → (ts.filterMap f).length < ts.length := by
              intro f hf ts
              induction ts with
              | nil => intro ht; cases ht
              | cons u us ih =>
                intro ht
                rcases List.mem_cons.mp ht with rfl | ht
                · rw [List.filterMap_cons_none hf]
                  exact Nat.lt_succ_of_le (List.length_filterMap_le _ _)
                · have := ih ht
                  cases q : f u with
                  | none => rw [List.filterMap_cons_none q]; exact Nat.lt_succ_of_lt this
                  | some y => rw [List.filterMap_cons_some q]; exact Nat.succ_lt_succ this
            rw [bne_iff_ne]
            refine Nat.ne_of_lt (lt _ ?_ ts ht)
            unfold nonLoc at hz
            cases t <;> first | exact Bool.noConfusion hz | skip
            rename_i id pos
            have hz : decide (X.env.scope.names.lookup id ≠ some .local) = true := hz
            have hz := of_decide_eq_true hz
            have q : (X.env.kindOf id == some NameKind.local) = false := by
              have : X.env.kindOf id ≠ some .local := hz
              simpa using this
            simp only [q, Bool.false_and]
            simp
/-- is a value swapped as it is stored? -/
def lcSw (c : Ctx) (x : Str) (px : Pos) (v : Expr) : Bool := match gLcP v with
  | some (sc, p) => swB sc p x px c.names
  | none => false

mutual
def chkS : Stm → Ctx → Stmt → Bool
  | .set i e, c, st => match gAsg st with
    | some (t, v, _) => (match gNmP t with
      | some (x, _) => decide (c.N[i]? = some x) && isLoc c x && (notComp v || (gLcP v).isSome) && chkE e c v
      | none => false)
    | none => false
  | .asg is e, c, st => match gAsg st with
    | some (t, v, _) => (match gTupP t with
      | some (es, _, _) => chkNms c is es && swNo c.names es v && chkE e c v
      | none => false)
    | none => false
  | .par i j a b, c, st => match gAsg st with
    | some (t, v, _) => (match gTupP t, gTupP v with
      | some ([t1, t2], _, _), some ([v1, v2], _, _) => (match gNmP t1, gNmP t2 with
        | some (x, px), some (y, py) => decide (c.N[i]? = some x) && decide (c.N[j]? = some y) && decide (i ≠ j) && parB c.names x y px py v1 v2 && chkE a c v1 && chkE b c v2
        | _, _ => false)
      | _, _ => false)
    | none => false
  | .par3 i j l a b d, c, st => match gAsg st with
    | some (t, v, _) => (match gTupP t, gTupP v with
      | some ([t1, t2, t3], _, _), some ([v1, v2, v3], _, _) => (match gNmP t1, gNmP t2, gNmP t3 with
        | some (x, px), some (y, py), some (z, pz) => decide (c.N[i]? = some x) && decide (c.N[j]? = some y) && decide (c.N[l]? = some z) && decide (i ≠ j) && decide (i ≠ l) && decide (j ≠ l) && parB3 c.names x y z px py pz v1 v2 v3 && chkE a c v1 && chkE b c v2 && chkE d c v3
        | _, _, _ => false)
      | _, _ => false)
    | none => false
  | .setix o i e, c, st => match gAsg st with
    | some (t, v, _) => (match gSub t with
      | some (x, y) => plainIx y && chkE o c x && chkE i c y && chkE e c v
      | none => false)
    | none => false
  | .ex e, c, st => match gExS st with
    | some v => notComp v && chkE e c v
    | none => false
  | .ret e, c, st => match gRet st with
    | some v => chkE e c v
    | none => false
  | .ife t a b, c, st => match gIfS st with
    | some (x, y, z) => chkE t c x && chkB a c y && chkB b c z
    | none => false
  | .for_ tg it b, c, st => match gFor st with
    | some (x, y, z) => chkTg c tg x && chkI it c x y && notSet y && chkB b c z
    | none => false
  | .while_ t b, c, st => match gWh st with
    | some (x, y) => chkE t c x && chkB b c y
    | none => false
  | .brk, _, st => isBrk st
  | .cont, _, st => isCont st
  | .pass, _, st => isPass st
  | .freeze _, _, _ => false
  | .never, _, _ => true
def chkB : Blk → Ctx → List Stmt → Bool
  | .nil, _, [] => true
  | .cons (.freeze _) b, c, ss => chkB b c ss
  | .cons s b, c, st :: ss => chkS s c st && chkB b c ss
  | _, _, _ => false
end

structure GoodS (c : Ctx) (Γ : Gam) (X : Cx) : Prop where
  g : Good c Γ X
  p : PassesOwn (model X.prog X.w) X.A X.env X.xe
def SndS (Γ : Gam) (s : Stm) : Prop := ∀ (c : Ctx) (X : Cx) (st : Stmt), GoodS c Γ X → chkS s c st = true → PS X st (tS X.K (wpS Γ s))
def SndB (Γ : Gam) (b : Blk) : Prop := ∀ (c : Ctx) (X : Cx) (ss : List Stmt), GoodS c Γ X → chkB b c ss = true → PSs X ss (tS X.K (wpB Γ b))
theorem comp_of {e : Ex} {c : Ctx} {elt : Expr} {gs : List Comprehension} {sc : Scope} {p : Pos} (h : chkE e c (.ListComp elt gs sc p) = true) : ∃ mu own tg it cond el, e = .comp mu own tg it cond el := by
  cases e <;> first | exact Bool.noConfusion (show false = true from h) | exact ⟨_, _, _, _, _, _, rfl⟩
theorem sndS_set (Γ : Gam) (i : Nat) (e : Ex) : SndS Γ (.set i e) := fun c X st G h => by
  have h2 : (match gAsg st with
    | some (t, v, _) => (match gNmP t with
      | some (x, _) => decide (c.N[i]? = some x) && isLoc c x && (notComp v || (gLcP v).isSome) && chkE e c v
      | none => false)
    | none => false) = true := h
  clear h
  split at h2
  · rename_i t v p e1
    have := gAsg_eq e1
    subst this
    split at h2
    · rename_i x px e2
      have := gNmP_eq e2
      subst this
      obtain ⟨h1, h3⟩ := and2 h2
      obtain ⟨h1, h4⟩ := and2 h1
      obtain ⟨h1, h5⟩ := and2 h1
      have nd : X.N.Nodup := by rw [G.g.N]; exact G.g.nd
      have hi : X.N[i]? = some x := by rw [G.g.N]; exact of_decide_eq_true h1
      have l := isLoc_ok G.g h5
      cases hc : notComp v with
      | true => exact ps_setD nd hi l.1 l.2 (snd Γ e c X v G.g h3).sE (swaps_no hc)
      | false =>
        rw [hc, Bool.false_or] at h4
        cases v with
        | ListComp elt gs sc p2 =>
          cases hs : swB sc p2 x px X.env.scope.names with
          | false => exact ps_setD nd hi l.1 l.2 (snd Γ e c X _ G.g h3).sE (by rw [swaps_lc G.g.kind, hs])
          | true =>
            obtain ⟨mu, own, tg, it, cond, el, rfl⟩ := comp_of h3
            obtain ⟨pelt, ptg, pit', ifs, sc', p3, e3, ok, hown, ns, hit, hg, ht, he⟩ := comp_parts (sndIt Γ it) (snds Γ cond) (snd Γ el) G.g h3
            cases e3
            have hy : X.env.scope.names.lookup x = some .local := by
              unfold swB at hs
              obtain ⟨hs, _⟩ := and2 hs
              exact of_decide_eq_true (and2 hs).1
            refine PS.w (ps_setLc (i := i) G.g.calm nd hi hy (by rw [swaps_lc G.g.kind, hs]) hit ok hg ht he (notSet_ok ns)) fun D σV H ⟨σ, h, ρ, P, s, q, pr⟩ => ?_
            refine tLcD (mu := mu) (Q := fun x H1 => gName i x σV H1 D.nx) hown ?_
            exact tE_wp s q fun d h1 v H1 ρ1 s1 k1 r1 q => pr.nx _ _ _ _ _ ⟨s1.hp, s1.sl.set r1⟩ k1 q
        | _ => exact Bool.noConfusion (show false = true from h4)
    · cases h2
  · cases h2
theorem sndS_asg (Γ : Gam) (is : List Nat) (e : Ex) : SndS Γ (.asg is e) := fun c X st G h => by
  have h2 : (match gAsg st with
    | some (t, v, _) => (match gTupP t with
      | some (es, _, _) => chkNms c is es && swNo c.names es v && chkE e c v
      | none => false)
    | none => false) = true := h
  clear h
  split at h2
  · rename_i t v p e1
    have := gAsg_eq e1
    subst this
    split at h2
    · rename_i es k p2 e2
      have := gTupP_eq e2
      subst this
      obtain ⟨h1, h3⟩ := and2 h2
      obtain ⟨h1, h4⟩ := and2 h1
      have nd : X.N.Nodup := by rw [G.g.N]; exact G.g.nd
      exact ps_asgD nd G.g.calm (chkNms_ok G.g h1) (snd Γ e c X v G.g h3).sE (swNo_ok (by rw [G.g.names]; exact h4))
    · cases h2
  · cases h2
theorem sndS_par (Γ : Gam) (i j : Nat) (a b : Ex) : SndS Γ (.par i j a b) := fun c X st G h => by
  have h2 : (match gAsg st with
    | some (t, v, _) => (match gTupP t, gTupP v with
      | some ([t1, t2], _, _), some ([v1, v2], _, _) => (match gNmP t1, gNmP t2 with
        | some (x, px), some (y, py) => decide (c.N[i]? = some x) && decide (c.N[j]? = some y) && decide (i ≠ j) && parB c.names x y px py v1 v2 && chkE a c v1 && chkE b c v2
        | _, _ => false)
      | _, _ => false)
    | none => false) = true := h
  clear h
  split at h2
  · rename_i t v p e1
    have := gAsg_eq e1
    subst this
    split at h2
    · rename_i t1 t2 k p2 v1 v2 k2 p3 e2 e3
      have := gTupP_eq e2
      subst this
      have := gTupP_eq e3
      subst this
      split at h2
      · rename_i x px y py e4 e5
        have := gNmP_eq e4
        subst this
        have := gNmP_eq e5
        subst this
        obtain ⟨h1, h3⟩ := and2 h2
        obtain ⟨h1, h4⟩ := and2 h1
        obtain ⟨h1, h5⟩ := and2 h1
        obtain ⟨h1, h6⟩ := and2 h1
        obtain ⟨h1, h7⟩ := and2 h1
        have nd : X.N.Nodup := by rw [G.g.N]; exact G.g.nd
        exact ps_parD nd G.g.kind G.g.calm (by rw [G.g.N]; exact of_decide_eq_true h1) (by rw [G.g.N]; exact of_decide_eq_true h7) (of_decide_eq_true h6) (by rw [G.g.names]; exact h5) (snd Γ a c X v1 G.g h4).sE (snd Γ b c X v2 G.g h3).sE
      · cases h2
    · cases h2
  · cases h2
theorem sndS_par3 (Γ : Gam) (i j l : Nat) (a b d : Ex) : SndS Γ (.par3 i j l a b d) := fun c X st G h => by
  have h2 : (match gAsg st with
    | some (t, v, _) => (match gTupP t, gTupP v with
      | some ([t1, t2, t3], _, _), some ([v1, v2, v3], _, _) => (match gNmP t1, gNmP t2, gNmP t3 with
        | some (x, px), some (y, py), some (z, pz) => decide (c.N[i]? = some x) && decide (c.N[j]? = some y) && decide (c.N[l]? = some z) && decide (i ≠ j) && decide (i ≠ l) && decide (j ≠ l) && parB3 c.names x y z px py pz v1 v2 v3 && chkE a c v1 && chkE b c v2 && chkE d c v3
        | _, _, _ => false)
      | _, _ => false)
    | none => false) = true := h
  clear h
  split at h2
  · rename_i t v p e1
    have := gAsg_eq e1
    subst this
    split at h2
    · rename_i t1 t2 t3 k p2 v1 v2 v3 k2 p3 e2 e3
      have := gTupP_eq e2
      subst this
      have := gTupP_eq e3
      subst this
      split at h2
      · rename_i x px y py z pz e4 e5 e6
        have := gNmP_eq e4
        subst this
        have := gNmP_eq e5
        subst this
        have := gNmP_eq e6
        subst this
        obtain ⟨h1, k10⟩ := and2 h2
        obtain ⟨h1, k9⟩ := and2 h1
        obtain ⟨h1, k8⟩ := and2 h1
        obtain ⟨h1, k7⟩ := and2 h1
        obtain ⟨h1, k6⟩ := and2 h1
        obtain ⟨h1, k5⟩ := and2 h1
        obtain ⟨h1, k4⟩ := and2 h1
        obtain ⟨h1, k3⟩ := and2 h1
        obtain ⟨k1, k2⟩ := and2 h1
        have nd : X.N.Nodup := by rw [G.g.N]; exact G.g.nd
        exact ps_par3D nd G.g.kind G.g.calm (by rw [G.g.N]; exact of_decide_eq_true k1) (by rw [G.g.N]; exact of_decide_eq_true k2) (by rw [G.g.N]; exact of_decide_eq_true k3) (of_decide_eq_true k4) (of_decide_eq_true k5) (of_decide_eq_true k6) (by rw [G.g.names]; exact k7) (snd Γ a c X v1 G.g k8).sE (snd Γ b c X v2 G.g k9).sE (snd Γ d c X v3 G.g k10).sE
      · cases h2
    · cases h2
  · cases h2
theorem sndS_setix (Γ : Gam) (o i e : Ex) : SndS Γ (.setix o i e) := fun c X st G h => by
  have h2 : (match gAsg st with
    | some (t, v, _) => (match gSub t with
      | some (x, y) => plainIx y && chkE o c x && chkE i c y && chkE e c v
      | none => false)
    | none => false) = true := h
  clear h
  split at h2
  · rename_i t v p e1
    have := gAsg_eq e1
    subst this
    split at h2
    · rename_i x y e2
      obtain ⟨p2, rfl⟩ := gSub_eq e2
      obtain ⟨h1, h3⟩ := and2 h2
      obtain ⟨h1, h4⟩ := and2 h1
      obtain ⟨h1, h5⟩ := and2 h1
      exact ps_setixD (snd Γ o c X x G.g h5).sE (snd Γ i c X y G.g h4).sE (snd Γ e c X v G.g h3).sE h1
    · cases h2
  · cases h2
theorem sndS_ex (Γ : Gam) (e : Ex) : SndS Γ (.ex e) := fun c X st G h => by
  have h2 : (match gExS st with
    | some v => notComp v && chkE e c v
    | none => false) = true := h
  clear h
  split at h2
  · rename_i v e1
    obtain ⟨p, rfl⟩ := gExS_eq e1
    obtain ⟨h1, h3⟩ := and2 h2
    exact ps_exD (snd Γ e c X v G.g h3).sE h1
  · cases h2
theorem sndS_ret (Γ : Gam) (e : Ex) : SndS Γ (.ret e) := fun c X st G h => by
  have h2 : (match gRet st with
    | some v => chkE e c v
    | none => false) = true := h
  clear h
  split at h2
  · rename_i v e1
    obtain ⟨p, rfl⟩ := gRet_eq e1
    exact ps_retD (snd Γ e c X v G.g h2).sE
  · cases h2
theorem sndS_ife {Γ : Gam} {t : Ex} {a b : Blk} (pa : SndB Γ a) (pb : SndB Γ b) : SndS Γ (.ife t a b) := fun c X st G h => by
  have h2 : (match gIfS st with
    | some (x, y, z) => chkE t c x && chkB a c y && chkB b c z
    | none => false) = true := h
  clear h
  split at h2
  · rename_i x y z e1
    obtain ⟨p, rfl⟩ := gIfS_eq e1
    obtain ⟨h1, h3⟩ := and2 h2
    obtain ⟨h1, h4⟩ := and2 h1
    exact ps_ifD (snd Γ t c X x G.g h1).sT (pa c X y G h4) (pb c X z G h3)
  · cases h2
theorem sndS_for {Γ : Gam} {tg : Tg} {it : It} {b : Blk} (pb : SndB Γ b) : SndS Γ (.for_ tg it b) := fun c X st G h => by
  have h2 : (match gFor st with
    | some (x, y, z) => chkTg c tg x && chkI it c x y && notSet y && chkB b c z
    | none => false) = true := h
  clear h
  split at h2
  · rename_i x y z e1
    obtain ⟨p, rfl⟩ := gFor_eq e1
    obtain ⟨h1, h3⟩ := and2 h2
    obtain ⟨h1, h4⟩ := and2 h1
    obtain ⟨h1, h5⟩ := and2 h1
    exact ps_forD G.p G.g.calm (sndIt Γ it c X y x G.g h5) (chkTg_ok G.g h1) (pb c X z G h3) h4
  · cases h2
theorem sndS_while {Γ : Gam} {t : Ex} {b : Blk} (pb : SndB Γ b) : SndS Γ (.while_ t b) := fun c X st G h => by
  have h2 : (match gWh st with
    | some (x, y) => chkE t c x && chkB b c y
    | none => false) = true := h
  clear h
  split at h2
  · rename_i x y e1
    obtain ⟨p, rfl⟩ := gWh_eq e1
    obtain ⟨h1, h3⟩ := and2 h2
    exact ps_whileD G.p (snd Γ t c X x G.g h1).sT (pb c X y G h3)
  · cases h2
theorem sndB_cons {Γ : Gam} {s : Stm} {b : Blk} (hs : ∀ i, s ≠ .freeze i) (ps : SndS Γ s) (pb : SndB Γ b) : SndB Γ (.cons s b) := fun c X ss G h => by
  cases ss with
  | nil => cases s <;> first | exact absurd rfl (hs _) | exact Bool.noConfusion (show false = true from h)
  | cons st ss =>
    have h : (chkS s c st && chkB b c ss) = true := by cases s <;> first | exact absurd rfl (hs _) | exact h
    obtain ⟨h1, h3⟩ := and2 h
    have q := pss_consD (ps c X st G h1) (pb c X ss G h3)
    exact q
mutual
theorem sndS (Γ : Gam) : ∀ s : Stm, SndS Γ s
  | .set i e => sndS_set Γ i e
  | .asg is e => sndS_asg Γ is e
  | .par i j a b => sndS_par Γ i j a b
  | .par3 i j l a b d => sndS_par3 Γ i j l a b d
  | .setix o i e => sndS_setix Γ o i e
  | .ex e => sndS_ex Γ e
  | .ret e => sndS_ret Γ e
  | .ife _ a b => sndS_ife (sndB Γ a) (sndB Γ b)
  | .for_ _ _ b => sndS_for (sndB Γ b)
  | .while_ _ b => sndS_while (sndB Γ b)
  | .brk => fun c X st G h => by cases st <;> first | exact Bool.noConfusion (show false = true from h) | exact ps_brkD
  | .cont => fun c X st G h => by cases st <;> first | exact Bool.noConfusion (show false = true from h) | exact ps_contD
  | .pass => fun c X st G h => by cases st <;> first | exact Bool.noConfusion (show false = true from h) | exact ps_passD
  | .freeze _ => fun c X st G h => Bool.noConfusion (show false = true from h)
  | .never => fun c X st G h => ps_nevD
theorem sndB (Γ : Gam) : ∀ b : Blk, SndB Γ b
  | .nil => fun c X ss G h => by
    cases ss with
    | nil => exact pss_nilD
    | cons a b => exact Bool.noConfusion (show false = true from h)
  | .cons (.freeze i) b => fun c X ss G h => pss_freezeD (sndB Γ b c X ss G (by cases ss <;> exact h))
  | .cons (.set i e) b => sndB_cons (fun _ z => by cases z) (sndS_set Γ i e) (sndB Γ b)
  | .cons (.asg is e) b => sndB_cons (fun _ z => by cases z) (sndS_asg Γ is e) (sndB Γ b)
  | .cons (.par i j x y) b => sndB_cons (fun _ z => by cases z) (sndS_par Γ i j x y) (sndB Γ b)
  | .cons (.par3 i j l x y z) b => sndB_cons (fun _ z => by cases z) (sndS_par3 Γ i j l x y z) (sndB Γ b)
  | .cons (.setix o i e) b => sndB_cons (fun _ z => by cases z) (sndS_setix Γ o i e) (sndB Γ b)
  | .cons (.ex e) b => sndB_cons (fun _ z => by cases z) (sndS_ex Γ e) (sndB Γ b)
  | .cons (.ret e) b => sndB_cons (fun _ z => by cases z) (sndS_ret Γ e) (sndB Γ b)
  | .cons (.ife t x y) b => sndB_cons (fun _ z => by cases z) (sndS_ife (sndB Γ x) (sndB Γ y)) (sndB Γ b)
  | .cons (.for_ _ _ x) b => sndB_cons (fun _ z => by cases z) (sndS_for (sndB Γ x)) (sndB Γ b)
  | .cons (.while_ _ x) b => sndB_cons (fun _ z => by cases z) (sndS_while (sndB Γ x)) (sndB Γ b)
  | .cons .brk b => sndB_cons (fun _ z => by cases z) (sndS Γ .brk) (sndB Γ b)
  | .cons .cont b => sndB_cons (fun _ z => by cases z) (sndS Γ .cont) (sndB Γ b)
  | .cons .pass b => sndB_cons (fun _ z => by cases z) (sndS Γ .pass) (sndB Γ b)
  | .cons .never b => sndB_cons (fun _ z => by cases z) (sndS Γ .never) (sndB Γ b)
end

/-! Mini 16: a def by its body; the law. -/

/-! ### how a def ends: shared things of its own are closed, and forgotten -/
def belowO (m : Nat) : MO → Bool
  | .lst xs => belowDs m xs
  | .gone => true
mutual
theorem belowD_mono1 {n m : Nat} (h : n ≤ m) : ∀ d, belowD n d = true → belowD m d = true
  | .tup xs, e => belowDs_mono1 h xs e
  | .lst xs, e => belowDs_mono1 h xs e
  | .wtup xs, e => belowDs_mono1 h xs e
  | .dict _ xs, e => belowDs_mono1 h xs e
  | .fn _ _, _ => rfl
  | .ref k, e => decide_eq_true (Nat.lt_of_lt_of_le (of_decide_eq_true e) h)
  | .non, _ => rfl
  | .bl _, _ => rfl
  | .int _, _ => rfl
  | .str _, _ => rfl
theorem belowDs_mono1 {n m : Nat} (h : n ≤ m) : ∀ ds, belowDs n ds = true → belowDs m ds = true
  | [], _ => rfl
  | d :: ds, e => by
    unfold belowDs at e ⊢
    rw [Bool.and_eq_true] at e ⊢
    exact ⟨belowD_mono1 h d e.1, belowDs_mono1 h ds e.2⟩
end
theorem belowD_mono {n m : Nat} (h : n ≤ m) : (∀ d, belowD n d = true → belowD m d = true) ∧ ∀ ds, belowDs n ds = true → belowDs m ds = true := ⟨belowD_mono1 h, belowDs_mono1 h⟩
inductive Fz (h0 : Hm) : D → Hm → D → Hm → Prop
  | refl {d : D} {h : Hm} : Fz h0 d h d h
  | close {n : Nat} {h : Hm} {xs : List D} {r : D} {h' : Hm} : listOf? h n = some xs → Fz h0 (.lst xs) (h.set n .gone) r h' → Fz h0 (.ref n) h r h'
  | cut {m : Nat} {d : D} {h : Hm} {r : D} {h' : Hm} : h0.length ≤ m → m ≤ h.length → belowD m d = true → (∀ i o, i < m → h[i]? = some o → h0[i]? = some o ∨ belowO m o = true) → Fz h0 d (h.take m) r h' → Fz h0 d h r h'
section
variable {K : PySem.W.Frag}
theorem fz_ok {h0 : Hm} {ρ0 : List Addr} {H0 H2 : Hp} {d : D} {h2 : Hm} {r : D} {h' : Hm} (z : Fz h0 d h2 r h') (hr0 : HR K h0 ρ0 H0) : ∀ {ρ2 : List Addr} {v : V}, HR K h2 ρ2 H2 → Kp h0 ρ0 H0 h2 ρ2 H2 → Rel K h2 ρ2 H2 d v →
    ∃ ρ', HR K h' ρ' H2 ∧ Kp h0 ρ0 H0 h' ρ' H2 ∧ Rel K h' ρ' H2 r v := by
  have hl0 := hr0.len
  induction z with
  | refl => exact fun hr k r => ⟨_, hr, k, r⟩
  | @close n h xs r h' e z ih =>
    intro ρ2 v hr k r
    cases r with
    | @ref _ a ea =>
      have rc := hr.close ea (listOf_eq e)
      exact ih rc.1 (k.trans (Kp.close ea (listOf_eq e))) rc.2
  | @cut m d h r h' h1 h2 b1 b2 z ih =>
    intro ρ2 v hr k r
    have hget : ∀ (n : Nat) (o : MO), (h.take m)[n]? = some o → h[n]? = some o ∧ n < m := fun n o q => by
      have hn : n < (h.take m).length := (List.getElem?_eq_some_iff.mp q).1
      rw [List.length_take] at hn
      rw [List.getElem?_take_of_lt (by omega)] at q
      exact ⟨q, by omega⟩
    have hρ : ∀ (i : Nat) (a : Addr), i < m → ρ2[i]? = some a → (ρ2.take m)[i]? = some a := fun i a hi q => by
      rw [List.getElem?_take_of_lt hi]
      exact q
    have hρ' : ∀ (i : Nat) (a : Addr), (ρ2.take m)[i]? = some a → ρ2[i]? = some a := fun i a q => by
      have hn : i < (ρ2.take m).length := (List.getElem?_eq_some_iff.mp q).1
      rw [List.length_take] at hn
      rw [List.getElem?_take_of_lt (by omega)] at q
      exact q
    have hM : ∀ a, Mu (ρ2.take m) (h.take m) a → Mu ρ2 h a := fun a ⟨n, o, q1, q2, q3⟩ => ⟨n, o, hρ' n a q1, (hget n o q2).1, q3⟩
    refine ih (ρ2 := ρ2.take m) ⟨?_, hr.nd.sublist (List.take_sublist _ _), fun n o a q1 q2 => ?_⟩ ⟨fun a o q nM => ?_, fun n a q => ?_⟩ (RD.down hρ hM b1 r)
    · rw [List.length_take, List.length_take, hr.len]
    · have z1 := hr.obj n o a (hget n o q1).1 (hρ' n a q2)
      have b : belowO m o = true := by
        rcases b2 n o (hget n o q1).2 (hget n o q1).1 with e | b
        · have hn : n < h0.length := (List.getElem?_eq_some_iff.mp e).1
          obtain ⟨a0, ha0⟩ : ∃ a0, ρ0[n]? = some a0 := ⟨ρ0[n]'(by rw [hl0]; exact hn), by simp [hl0, hn]⟩
          have z0 := hr0.obj n o a0 e ha0
          cases o with
          | gone => rfl
          | lst xs =>
            obtain ⟨vs, _, z3⟩ := z0
            have := RDs.isBelow hl0 z3
            have mono : ∀ (n m : Nat), n ≤ m → (∀ d, belowD n d = true → belowD m d = true) ∧ ∀ ds, belowDs n ds = true → belowDs m ds = true := fun n m hnm => belowD_mono hnm
            exact (mono _ _ h1).2 xs this
        · exact b
      cases o with
      | gone => exact z1
      | lst xs =>
        obtain ⟨vs, z2, z3⟩ := z1
        exact ⟨vs, z2, RDs.down hρ hM b z3⟩
    · obtain ⟨a1, a2⟩ := k.obj a o q nM
      exact ⟨a1, fun z => a2 (hM a z)⟩
    · have hn : n < ρ0.length := (List.getElem?_eq_some_iff.mp q).1
      exact hρ n a (by omega) (k.ref n a q)
theorem Fz.back {h t : Hm} {d : D} (b : belowD h.length d = true) : Fz h d (h ++ t) d h := by
  refine .cut (m := h.length) (Nat.le_refl _) (by simp) b (fun i o hi e => .inl ?_) ?_
  · rw [List.getElem?_append_left hi] at e
    exact e
  · rw [List.take_left]
    exact .refl
/-- the common end: what was there is as it was -/
theorem belowDs_of {n : Nat} {xs : List D} (h : ∀ x ∈ xs, belowD n x = true) : belowDs n xs = true := by
  induction xs with
  | nil => rfl
  | cons x xs ih =>
    unfold belowDs
    rw [h x List.mem_cons_self, ih fun y hy => h y (List.mem_cons_of_mem _ hy)]
    rfl
end

/-! ### defs of a module -/
/-- what a def's name calls -/
def FnAt (P : Program) (w : World) (K : PySem.W.Frag) (mg : Str → Option Value) (base : Heap) (k : Nat) (x : Str) (den : List D → Hm → Res D) : Prop :=
  ∃ (f : Addr) (fd : FuncData) (ps : List Str), FnOk P w K mg base CX0 k f fd ps (spD K ps.length den) ∧ mg x = some (.ref f) ∧ PySem.W.keepIn K (.ref f) = true ∧ Binds K fd ps [] ∧ (∀ ds h r h', den ds h = .ok r h' → ds.length = ps.length) ∧ PySem.W.nsIn K mainGlobals x = some (some (.ref f))
def FnKAt (P : Program) (w : World) (K : PySem.W.Frag) (mg : Str → Option Value) (base : Heap) (k : Nat) (x : Str) (den : List D → Hm → Res D) (n : Nat) (ks : List Str) (perm : List Nat) : Prop :=
  ∃ (f : Addr) (fd : FuncData) (ps : List Str), FnOk P w K mg base CX0 k f fd ps (spD K ps.length den) ∧ mg x = some (.ref f) ∧ PySem.W.keepIn K (.ref f) = true ∧
    (∀ (s : Shared) (us ws : List Value), K.In s.heap → us.length = n → ws.length = ks.length → BindsTo s fd ⟨us, ks.zip ws⟩ (ps.zip (permV perm Value.none us ws))) ∧ ∀ ds h r h', den ds h = .ok r h' → ds.length = ps.length
section
variable {P : Program} {w : World} {K : PySem.W.Frag} {mg : Str → Option Value} {base : Heap} {k j : Nat} {x : Str} {den : List D → Hm → Res D}
theorem FnAt.mono (F : FnAt P w K mg base j x den) (h : j ≤ k) : FnAt P w K mg base k x den := by
  obtain ⟨f, fd, ps, F, r⟩ := F
  exact ⟨f, fd, ps, F.mono h, r⟩
theorem FnKAt.mono {n : Nat} {ks : List Str} {perm : List Nat} (F : FnKAt P w K mg base j x den n ks perm) (h : j ≤ k) : FnKAt P w K mg base k x den n ks perm := by
  obtain ⟨f, fd, ps, F, r⟩ := F
  exact ⟨f, fd, ps, F.mono h, r⟩
/-- what a def's body may call: by number -/
structure EnvOk (P : Program) (w : World) (K : PySem.W.Frag) (mg : Str → Option Value) (base : Heap) (k : Nat) (c : Ctx) (Γ : Gam) : Prop where
  bi : ∀ x ∈ bNames, mg x = none
  fn : ∀ i den, Γ.fn i = some den → ∃ x, c.fnm[i]? = some x ∧ FnAt P w K mg base k x den
  kw : ∀ i n ks perm den, (i, n, ks, perm) ∈ c.kw → Γ.fn i = some den → ∃ x, c.fnm[i]? = some x ∧ FnKAt P w K mg base k x den n ks perm
  gl : ∀ g d, Γ.gl g = some d → ∃ x u v, c.glm[g]? = some x ∧ mg x = some u ∧ RelV v u ∧ ∀ H ρ M, RD K H ρ M d v
/-- the slots at the entry -/
def startD (N : List Str) (ds : List D) : Sg := ds.map some ++ List.replicate (N.length - ds.length) none
theorem start_rel {N : List Str} {h : Hm} {ρ : List Addr} {H : Hp} {ds : List D} {vs : List V} (r : Rels K h ρ H ds vs) : SlR K H ρ (Mu ρ h) (startD N ds) (L2.start N vs) := by
  have hl := r.length
  refine ⟨by unfold startD L2.start; simp [hl], fun i d e => ?_⟩
  unfold startD at e
  by_cases hi : i < ds.length
  · rw [List.getElem?_append_left (by simpa using hi), List.getElem?_map] at e
    cases e2 : ds[i]? with
    | none => rw [e2] at e; cases e
    | some d2 =>
      rw [e2] at e
      have : d2 = d := by simpa using e
      subst this
      obtain ⟨v, h1, h2⟩ := r.get e2
      refine ⟨v, ?_, h2⟩
      unfold L2.start
      rw [List.getElem?_append_left (by rw [List.length_map, ← hl]; exact hi), List.getElem?_map, h1]
      rfl
  · rw [List.getElem?_append_right (by simpa using hi), List.getElem?_replicate] at e
    split at e <;> cases e
/-- what a body is shown to do -/
def BodyOk (Γ : Gam) (N : List Str) (body : Blk) (den : List D → Hm → Res D) : Prop :=
  ∀ ds h r h', den ds h = .ok r h' → wpB Γ body (startD N ds) h { nx := fun _ h2 => Fz h .non h2 r h', rt := fun d h2 => Fz h d h2 r h' }
theorem good_of {qual : Str} {st : Stmt} {f : Addr} {ps : List Str} {c : Ctx} {Γ : Gam} {cdv : Value} {A : Around} {outer : List Env} {s : Shared} {H : Hp} {X : XK} (S : FnScope c.N ps (defScope st)) (hc : c.names = (defScope st).names) (ho : c.own = none)
    (E : EnvOk P w K mg base k c Γ) (hr : Room k (A.deeper (envOfC qual (defScope st) s.heap.objs.size f cdv))) (gd : c.rp = true → A.guards = some []) : GoodS c Γ (cxOf CX0 P w K mg base c.N qual (defScope st) f cdv A outer s H X).nox := by
  refine ⟨⟨rfl, S.nd, hc.symm, S.kind, rfl, fun x => ?_, hr.units, gd, E.bi, fun i den e => ?_, fun i n ks perm den hm e => ?_, E.gl⟩, PassesOwn.never⟩
  · rw [ho]
    rfl
  · obtain ⟨x, h1, f2, fd2, ps2, F2, h2, h3, h4, h5⟩ := E.fn i den e
    exact ⟨x, h1, ⟨f2, fd2, ps2, k, F2, hr, h2, h3, h4, h5⟩⟩
  · obtain ⟨x, h1, f2, fd2, ps2, F2, h2, h3, h4, h5⟩ := E.kw i n ks perm den hm e
    exact ⟨x, h1, ⟨f2, fd2, ps2, k, F2, hr, h2, h3, h4, h5⟩⟩
/-- from a body that is shown to do what den tells: what is wanted of the call -/
theorem body_run {c : Ctx} {Γ : Gam} {body : Blk} {n : Nat} {vs : List V} {H : Hp} {Q : VK} {E : XK} (hsp : spD K n den vs H Q E) (hb : BodyOk Γ c.N body den) : tS K (wpB Γ body) { nx := fun _ H' => Q .non H', rt := Q } (L2.start c.N vs) H := by
  obtain ⟨hl, h, ρ, ds, hR, rs, q⟩ := hsp
  cases e : den ds h with
  | stuck => rw [e] at q; exact False.elim q
  | ok r h' =>
    rw [e] at q
    refine ⟨startD c.N ds, h, ρ, _, ⟨hR, start_rel rs⟩, hb ds h r h' e, ⟨fun σ' h2 σV' H2 ρ2 s2 k2 z => ?_, fun _ _ _ _ _ _ _ z => False.elim z, fun _ _ _ _ _ _ _ z => False.elim z, fun d h2 v H2 ρ2 hr2 k2 rv z => ?_⟩⟩
    · obtain ⟨ρ', a1, a2, a3⟩ := fz_ok z hR s2.hp k2 .non
      exact q _ _ _ a1 a2 a3
    · obtain ⟨ρ', a1, a2, a3⟩ := fz_ok z hR hr2 k2 rv
      exact q _ _ _ a1 a2 a3
theorem def_ok {qual : Str} {st : Stmt} {f : Addr} {fd : FuncData} {ps : List Str} {c : Ctx} {Γ : Gam} {body : Blk} {fdn : Str} (F : Fun K fdn qual st f fd) (S : FnScope c.N ps (defScope st)) (hc : c.names = (defScope st).names) (ho : c.own = none ∧ c.rp = false)
    (E : EnvOk P w K mg base k c Γ) (chk : chkB body c (defBody st) = true) (hn : ∀ ds h r h', den ds h = .ok r h' → ds.length = ps.length) (hb : BodyOk Γ c.N body den) :
    FnOk P w K mg base CX0 (k + 1) f fd ps (spD K ps.length den) := by
  refine F.ok S (fun vs H Q E h => h.1) (fun cdv A outer s H vs Q X hr hsp => ?_)
  exact ⟨_, sndB Γ body c _ _ (good_of S hc ho.1 E hr fun z => by rw [ho.2] at z; cases z) chk, body_run hsp hb⟩
/-- a def is there under its name -/
theorem fnAt_mk {qual fdn : Str} {st : Stmt} {f : Addr} {fd : FuncData} {ps : List Str} {c : Ctx} {Γ : Gam} {body : Blk} (F : Fun K fdn qual st f fd) (S : FnScope c.N ps (defScope st)) (hc : c.names = (defScope st).names) (ho : c.own = none ∧ c.rp = false)
    (E : EnvOk P w K mg base k c Γ) (chk : chkB body c (defBody st) = true) (hm : mg x = some (.ref f)) (bn : Binds K fd ps []) (hn : ∀ ds h r h', den ds h = .ok r h' → ds.length = ps.length) (hb : BodyOk Γ c.N body den) (hns : PySem.W.nsIn K mainGlobals x = some (some (.ref f))) : FnAt P w K mg base (k + 1) x den :=
  ⟨f, fd, ps, def_ok F S hc ho E chk hn hb, hm, F.kp, bn, hn, hns⟩
end
/-- the law: a list of ints goes in, True comes out -/
theorem law_sp {K : PySem.W.Frag} {den : List D → Hm → Res D} {H : Hp} {a : Addr} {ns : List Int} (hS : SqL K H a (ns.map V.int)) (hd : ∃ h', den [.lst (ns.map D.int)] [] = .ok (.bl true) h') : spD K 1 den [.ref a] H (fun v _ => v = .bl true) fun _ _ _ => False := by
  obtain ⟨h', hd⟩ := hd
  have nM : ∀ a, ¬ Mu ([] : List Addr) ([] : Hm) a := fun a ⟨n, o, q, _⟩ => by simp at q
  have rs : Rels K [] [] H (ns.map D.int) (ns.map V.int) := by
    clear hS hd
    induction ns with
    | nil => exact .nil
    | cons n ns ih => exact .cons (.int n) ih
  have l : LieL K H (Mu [] []) a (ns.map V.int) := hS.imp (fun z => ⟨z, nM _⟩) id
  refine ⟨rfl, [], [], [.lst (ns.map D.int)], ⟨rfl, List.nodup_nil, fun n o a q => by simp at q⟩, .cons (.lst l rs) .nil, ?_⟩
  rw [hd]
  intro v H' ρ' _ _ r
  cases r
  rfl

/-! Mini 17: words for reading a body. -/

theorem guard_wp {α : Type} {b : Bool} {r : Res α} {Q : α → Hm → Prop} (hb : b = true) (hr : r.wp Q) : (Res.guard b r).wp Q := by
  subst hb
  exact hr
theorem guard_ok {α : Type} {b : Bool} {r : Res α} {a : α} {h : Hm} (e : Res.guard b r = .ok a h) : b = true ∧ r = .ok a h := by
  cases b with
  | true => exact ⟨rfl, e⟩
  | false => cases e
@[simp] theorem Res.wp_stuck {α : Type} (Q : α → Hm → Prop) : (Res.stuck : Res α).wp Q = False := rfl
theorem ok_inj {α : Type} {a b : α} {h h' : Hm} (e : Res.ok a h = .ok b h') : a = b ∧ h = h' := by
  cases e
  exact ⟨rfl, rfl⟩
theorem wp_of_eq {α : Type} {r : Res α} {a : α} {h : Hm} {Q : α → Hm → Prop} (e : r = .ok a h) (q : Q a h) : r.wp Q := by
  rw [e]
  exact q
theorem ty_int_non  : tyD .int .non = false := rfl
theorem ty_int_bl (b : Bool) : tyD .int (.bl b) = true := rfl
theorem ty_int_int (i : Int) : tyD .int (.int i) = true := rfl
theorem ty_int_str (x : Str) : tyD .int (.str x) = false := rfl
theorem ty_int_tup (xs : List D) : tyD .int (.tup xs) = false := rfl
theorem ty_int_lst (xs : List D) : tyD .int (.lst xs) = false := rfl
theorem ty_int_ref (n : Nat) : tyD .int (.ref n) = false := rfl
theorem ty_int_wtup (xs : List D) : tyD .int (.wtup xs) = false := rfl
theorem ty_bool_non  : tyD .bool .non = false := rfl
theorem ty_bool_bl (b : Bool) : tyD .bool (.bl b) = true := rfl
theorem ty_bool_int (i : Int) : tyD .bool (.int i) = false := rfl
theorem ty_bool_str (x : Str) : tyD .bool (.str x) = false := rfl
theorem ty_bool_tup (xs : List D) : tyD .bool (.tup xs) = false := rfl
theorem ty_bool_lst (xs : List D) : tyD .bool (.lst xs) = false := rfl
theorem ty_bool_ref (n : Nat) : tyD .bool (.ref n) = false := rfl
theorem ty_bool_wtup (xs : List D) : tyD .bool (.wtup xs) = false := rfl
theorem ty_str_non  : tyD .str .non = false := rfl
theorem ty_str_bl (b : Bool) : tyD .str (.bl b) = false := rfl
theorem ty_str_int (i : Int) : tyD .str (.int i) = false := rfl
theorem ty_str_str (x : Str) : tyD .str (.str x) = true := rfl
theorem ty_str_tup (xs : List D) : tyD .str (.tup xs) = false := rfl
theorem ty_str_lst (xs : List D) : tyD .str (.lst xs) = false := rfl
theorem ty_str_ref (n : Nat) : tyD .str (.ref n) = false := rfl
theorem ty_str_wtup (xs : List D) : tyD .str (.wtup xs) = false := rfl
theorem ty_tuple_non  : tyD .tuple .non = false := rfl
theorem ty_tuple_bl (b : Bool) : tyD .tuple (.bl b) = false := rfl
theorem ty_tuple_int (i : Int) : tyD .tuple (.int i) = false := rfl
theorem ty_tuple_str (x : Str) : tyD .tuple (.str x) = false := rfl
theorem ty_tuple_tup (xs : List D) : tyD .tuple (.tup xs) = true := rfl
theorem ty_tuple_lst (xs : List D) : tyD .tuple (.lst xs) = false := rfl
theorem ty_tuple_ref (n : Nat) : tyD .tuple (.ref n) = false := rfl
theorem ty_tuple_wtup (xs : List D) : tyD .tuple (.wtup xs) = true := rfl
theorem ty_list_non  : tyD .list .non = false := rfl
theorem ty_list_bl (b : Bool) : tyD .list (.bl b) = false := rfl
theorem ty_list_int (i : Int) : tyD .list (.int i) = false := rfl
theorem ty_list_str (x : Str) : tyD .list (.str x) = false := rfl
theorem ty_list_tup (xs : List D) : tyD .list (.tup xs) = false := rfl
theorem ty_list_lst (xs : List D) : tyD .list (.lst xs) = true := rfl
theorem ty_list_ref (n : Nat) : tyD .list (.ref n) = true := rfl
theorem ty_list_wtup (xs : List D) : tyD .list (.wtup xs) = false := rfl
theorem ty_int_dict (ks : List Str) (xs : List D) : tyD .int (.dict ks xs) = false := rfl
theorem open_non (h : Hm)  : openD h .non = true := rfl
theorem isNon_non  : isNonD .non = true := rfl
theorem open_bl (h : Hm) (b : Bool) : openD h (.bl b) = true := rfl
theorem isNon_bl (b : Bool) : isNonD (.bl b) = false := rfl
theorem open_int (h : Hm) (i : Int) : openD h (.int i) = true := rfl
theorem isNon_int (i : Int) : isNonD (.int i) = false := rfl
theorem open_str (h : Hm) (x : Str) : openD h (.str x) = true := rfl
theorem isNon_str (x : Str) : isNonD (.str x) = false := rfl
theorem open_tup (h : Hm) (xs : List D) : openD h (.tup xs) = true := rfl
theorem isNon_tup (xs : List D) : isNonD (.tup xs) = false := rfl
theorem open_lst (h : Hm) (xs : List D) : openD h (.lst xs) = true := rfl
theorem isNon_lst (xs : List D) : isNonD (.lst xs) = false := rfl
theorem open_wtup (h : Hm) (xs : List D) : openD h (.wtup xs) = true := rfl
theorem isNon_wtup (xs : List D) : isNonD (.wtup xs) = false := rfl
theorem isNon_ref (n : Nat) : isNonD (.ref n) = false := rfl
theorem open_ref (h : Hm) (n : Nat) : openD h (.ref n) = (listOf? h n).isSome := rfl
theorem op_addI (i j : Int) (h : Hm) : opD .add (.int i) (.int j) h = .ok (.int (i + j)) h := rfl
theorem op_addS (x y : Str) (h : Hm) : opD .add (.str x) (.str y) h = .guard (decide (x.length + y.length ≤ LIM)) (.ok (.str (x ++ y)) h) := (Eq.refl _).trans (Eq.refl _)
theorem op_addL (xs ys : List D) (h : Hm) : opD .add (.lst xs) (.lst ys) h = .guard (decide (xs.length + ys.length ≤ LIM)) (.ok (.lst (xs ++ ys)) h) := (Eq.refl _).trans (Eq.refl _)
theorem op_addT (xs ys : List D) (h : Hm) : opD .add (.tup xs) (.tup ys) h = .guard (decide (xs.length + ys.length ≤ LIM)) (.ok (.tup (xs ++ ys)) h) := (Eq.refl _).trans (Eq.refl _)
theorem op_addML (xs ys : List D) (h : Hm) : opD .addM (.lst xs) (.lst ys) h = .guard (decide (xs.length + ys.length ≤ LIM)) (.ok (.ref h.length) (h ++ [.lst (xs ++ ys)])) := (Eq.refl _).trans (Eq.refl _)
theorem op_subI (i j : Int) (h : Hm) : opD .sub (.int i) (.int j) h = .ok (.int (i - j)) h := rfl
theorem op_mulI (i j : Int) (h : Hm) : opD .mul (.int i) (.int j) h = .guard (mulOk i j) (.ok (.int (i * j)) h) := (Eq.refl _).trans (Eq.refl _)
theorem op_fdivI (i j : Int) (h : Hm) : opD .fdiv (.int i) (.int j) h = .guard (divOk j) (.ok (.int (i.fdiv j)) h) := (Eq.refl _).trans (Eq.refl _)
theorem op_modI (i j : Int) (h : Hm) : opD .mod (.int i) (.int j) h = .guard (decide (0 < j)) (.ok (.int (i % j)) h) := (Eq.refl _).trans (Eq.refl _)
theorem op_powI (i j : Int) (h : Hm) : opD .pow (.int i) (.int j) h = .guard (powOk i j) (.ok (.int (i ^ j.toNat)) h) := (Eq.refl _).trans (Eq.refl _)
theorem cm_lt (i j : Int) (h : Hm) : cmpD .lt (.int i) (.int j) h = .ok (decide (i < j)) h := rfl
theorem cm_le (i j : Int) (h : Hm) : cmpD .le (.int i) (.int j) h = .ok (decide (i ≤ j)) h := rfl
theorem cm_gt (i j : Int) (h : Hm) : cmpD .gt (.int i) (.int j) h = .ok (decide (j < i)) h := rfl
theorem cm_ge (i j : Int) (h : Hm) : cmpD .ge (.int i) (.int j) h = .ok (decide (j ≤ i)) h := rfl
theorem cm_eq (d e : D) (h : Hm) : cmpD .eq d e h = eqD d e h := by cases d <;> cases e <;> rfl
theorem cm_ne (d e : D) (h : Hm) : cmpD .ne d e h = (eqD d e h).bind fun b h1 => .ok (!b) h1 := by cases d <;> cases e <;> rfl
theorem bi_len (d : D) (h : Hm) (ns : ∀ x, d ≠ .str x) (nw : ∀ x, d ≠ .wtup x) : biD .len [d] h = match itemsOf h d with | some xs => .ok (.int xs.length) h | none => .stuck := by cases d <;> first | rfl | exact absurd rfl (ns _) | exact absurd rfl (nw _)
theorem bi_lenT (xs : List D) (h : Hm) : biD .len [.tup xs] h = .ok (.int xs.length) h := rfl
theorem bi_lenL (xs : List D) (h : Hm) : biD .len [.lst xs] h = .ok (.int xs.length) h := rfl
theorem bi_lenS (x : Str) (h : Hm) : biD .len [.str x] h = .guard (decide (x.length ≤ LIM)) (.ok (.int x.length) h) := (Eq.refl _).trans (Eq.refl _)
theorem bi_abs (i : Int) (h : Hm) : biD .abs [.int i] h = .ok (.int (if i < 0 then -i else i)) h := rfl
theorem bi_intI (i : Int) (h : Hm) : biD .int [.int i] h = .ok (.int i) h := rfl
theorem bi_intB (b : Bool) (h : Hm) : biD .int [.bl b] h = .ok (.int (if b then 1 else 0)) h := rfl
theorem bi_tupT (xs : List D) (h : Hm) : biD .tuple [.tup xs] h = .ok (.tup xs) h := rfl
theorem bi_tupL (xs : List D) (h : Hm) : biD .tuple [.lst xs] h = .ok (.tup xs) h := rfl
theorem bi_lstT (xs : List D) (h : Hm) : biD .list [.tup xs] h = .ok (.lst xs) h := rfl
theorem bi_lstL (xs : List D) (h : Hm) : biD .list [.lst xs] h = .ok (.lst xs) h := rfl
theorem bi_allL (xs : List D) (h : Hm) : biD .all [.lst xs] h = match boolsOf xs with | some bs => .ok (.bl (bs.all id)) h | none => .stuck := rfl
theorem bi_anyL (xs : List D) (h : Hm) : biD .any [.lst xs] h = match boolsOf xs with | some bs => .ok (.bl (bs.any id)) h | none => .stuck := rfl
theorem bi_sortedL (xs : List D) (h : Hm) : biD .sorted [.lst xs] h = match pairsOf xs with | some ps => .ok (.lst (unpairs (sortP ps))) h | none => dataR xs h := rfl
theorem ix_tup (xs : List D) (i : Int) (h : Hm) : ixD (.tup xs) (.int i) h = match atI xs i with | some y => .ok y h | none => .stuck := rfl
theorem ix_lst (xs : List D) (i : Int) (h : Hm) : ixD (.lst xs) (.int i) h = match atI xs i with | some y => .ok y h | none => .stuck := rfl
theorem ix_ref (n : Nat) (i : Int) (h : Hm) : ixD (.ref n) (.int i) h = match listOf? h n with | some xs => (match atI xs i with | some y => .ok y h | none => .stuck) | none => .stuck := rfl
theorem tr_bl (b : Bool) (h : Hm) : trD (.bl b) h = .ok b h := rfl
theorem it_tup (xs : List D) (h : Hm) : itD (.tup xs) h = .ok xs h := rfl
theorem it_lst (xs : List D) (h : Hm) : itD (.lst xs) h = .ok xs h := rfl
theorem eq_int (i j : Int) (h : Hm) : eqD (.int i) (.int j) h = .ok (decide (i = j)) h := by simp [eqD, toPyH, toPy, SeqAt.shaped, PyData.canLay0, PyData.depth, PyData.eqv]; rfl
theorem eq_bl (i j : Bool) (h : Hm) : eqD (.bl i) (.bl j) h = .ok (decide (i = j)) h := by simp [eqD, toPyH, toPy, SeqAt.shaped, PyData.canLay0, PyData.depth, PyData.eqv]; cases i <;> cases j <;> rfl
theorem lst_lst (h : Hm) (xs : List D) : lstOf h (.lst xs) = some xs := rfl
theorem lst_ref (h : Hm) (n : Nat) : lstOf h (.ref n) = listOf? h n := rfl
noncomputable def cd (p : Prop) : Bool := @decide p (Classical.propDecidable p)
theorem cd_true {p : Prop} (h : p) : cd p = true := @decide_eq_true p (Classical.propDecidable p) h
theorem cd_false {p : Prop} (h : ¬ p) : cd p = false := @decide_eq_false p (Classical.propDecidable p) h
theorem of_cd {p : Prop} (h : cd p = true) : p := @of_decide_eq_true p (Classical.propDecidable p) h
theorem cd_guard {α : Type} {p : Prop} {r : Res α} (h : p) : Res.guard (cd p) r = r := by rw [cd_true h]; rfl
/-! ### weaker wishes; loops by an invariant -/
structure Po.le (P P' : Po) : Prop where
  nx : ∀ σ h, P.nx σ h → P'.nx σ h
  rt : ∀ d h, P.rt d h → P'.rt d h
  bk : ∀ σ h, P.bk σ h → P'.bk σ h
  ct : ∀ σ h, P.ct σ h → P'.ct σ h
theorem Po.le.refl (P : Po) : P.le P := ⟨fun _ _ z => z, fun _ _ z => z, fun _ _ z => z, fun _ _ z => z⟩
theorem Po.le.with {P P' : Po} (l : P.le P') {f g : Sg → Hm → Prop} (w : ∀ σ h, f σ h → g σ h) : Po.le { P with nx := f } { P' with nx := g } := ⟨w, l.rt, l.bk, l.ct⟩
theorem wpFor_mono {b : D → Sg → Hm → Po → Prop} (bm : ∀ x σ h (P P' : Po), P.le P' → b x σ h P → b x σ h P') : ∀ (xs : List D) (σ : Sg) (h : Hm) (P P' : Po), P.le P' → wpFor b xs σ h P → wpFor b xs σ h P'
  | [], _, _, _, _, l, q => l.nx _ _ q
  | x :: xs, σ, h, P, P', l, q => by
    refine bm x σ h _ _ ?_ q
    exact ⟨fun σ h z => wpFor_mono bm xs σ h P P' l z, l.rt, l.nx, fun σ h z => wpFor_mono bm xs σ h P P' l z⟩
theorem wpWhile_mono {c : Sg → Hm → Res Bool} {b : Sg → Hm → Po → Prop} (bm : ∀ σ h (P P' : Po), P.le P' → b σ h P → b σ h P') : ∀ (n : Nat) (σ : Sg) (h : Hm) (P P' : Po), P.le P' → wpWhile c b n σ h P → wpWhile c b n σ h P'
  | 0, _, _, _, _, _, q => q
  | n + 1, σ, h, P, P', l, q => Res.wp_mono q fun t h1 q => by
    cases t with
    | true =>
      refine bm σ h1 _ _ ?_ q
      exact ⟨fun σ h z => wpWhile_mono bm n σ h P P' l z, l.rt, l.nx, fun σ h z => wpWhile_mono bm n σ h P P' l z⟩
    | false => exact l.nx _ _ q
theorem wpWhile_more {c : Sg → Hm → Res Bool} {b : Sg → Hm → Po → Prop} (bm : ∀ σ h (P P' : Po), P.le P' → b σ h P → b σ h P') : ∀ (n m : Nat) (σ : Sg) (h : Hm) (P : Po), n ≤ m → wpWhile c b n σ h P → wpWhile c b m σ h P
  | 0, _, _, _, _, _, q => False.elim q
  | n + 1, 0, _, _, _, l, _ => absurd l (Nat.not_succ_le_zero _)
  | n + 1, m + 1, σ, h, P, l, q => Res.wp_mono q fun t h1 q => by
    cases t with
    | true =>
      refine bm σ h1 _ _ ?_ q
      exact ⟨fun σ h z => wpWhile_more bm n m σ h P (by omega) z, fun _ _ z => z, fun _ _ z => z, fun σ h z => wpWhile_more bm n m σ h P (by omega) z⟩
    | false => exact q
mutual
theorem wpS_mono (Γ : Gam) : ∀ (s : Stm) (σ : Sg) (h : Hm) (P P' : Po), P.le P' → wpS Γ s σ h P → wpS Γ s σ h P'
  | .set i e, σ, h, P, P', l, q => Res.wp_mono q fun d h1 z => l.nx _ _ z
  | .asg is e, σ, h, P, P', l, q => Res.wp_mono q fun d h1 z => by
    cases k : asgD (.tup is) d σ with
    | none => rw [k] at z; exact False.elim z
    | some σ' => rw [k] at z; exact l.nx _ _ z
  | .par i j a b, σ, h, P, P', l, q => Res.wp_mono q fun x h1 z => Res.wp_mono z fun y h2 z => l.nx _ _ z
  | .par3 i j m a b d, σ, h, P, P', l, q => Res.wp_mono q fun x h1 z => Res.wp_mono z fun y h2 z => Res.wp_mono z fun w h3 z => l.nx _ _ z
  | .setix o i e, σ, h, P, P', l, q => Res.wp_mono q fun d h1 z => Res.wp_mono z fun x h2 z => Res.wp_mono z fun y h3 z => by
    split at z
    · split at z
      · split at z
        · exact l.nx _ _ z
        · exact False.elim z
      · exact False.elim z
    · exact False.elim z
  | .ex e, σ, h, P, P', l, q => Res.wp_mono q fun _ h1 z => l.nx _ _ z
  | .ret e, σ, h, P, P', l, q => Res.wp_mono q fun d h1 z => l.rt _ _ z
  | .ife c a b, σ, h, P, P', l, q => Res.wp_mono q fun t h1 z => by
    cases t with
    | true => exact wpB_mono Γ a σ h1 P P' l z
    | false => exact wpB_mono Γ b σ h1 P P' l z
  | .for_ tg it b, σ, h, P, P', l, q => Res.wp_mono q fun xs h1 z => wpFor_mono (fun x σ h P P' l q => by
    cases k : asgD tg x σ with
    | none => rw [k] at q; exact False.elim q
    | some σ' => rw [k] at q; exact wpB_mono Γ b σ' h P P' l q) xs σ h1 P P' l z
  | .while_ c b, σ, h, P, P', l, ⟨n, q⟩ => ⟨n, wpWhile_mono (fun σ h P P' l q => wpB_mono Γ b σ h P P' l q) n σ h P P' l q⟩
  | .brk, σ, h, P, P', l, q => l.bk _ _ q
  | .cont, σ, h, P, P', l, q => l.ct _ _ q
  | .pass, σ, h, P, P', l, q => l.nx _ _ q
  | .freeze i, σ, h, P, P', l, q => by
    have q : (match σ[i]? with
      | some (some (.ref n)) => match listOf? h n with
        | some xs => P.nx (σ.set i (some (.lst xs))) (h.set n .gone)
        | none => False
      | _ => False) := q
    show (match σ[i]? with
      | some (some (.ref n)) => match listOf? h n with
        | some xs => P'.nx (σ.set i (some (.lst xs))) (h.set n .gone)
        | none => False
      | _ => False)
    split at q
    · split at q
      · exact l.nx _ _ q
      · exact False.elim q
    · exact False.elim q
  | .never, σ, h, P, P', l, q => False.elim q
theorem wpB_mono (Γ : Gam) : ∀ (b : Blk) (σ : Sg) (h : Hm) (P P' : Po), P.le P' → wpB Γ b σ h P → wpB Γ b σ h P'
  | .nil, σ, h, P, P', l, q => l.nx _ _ q
  | .cons s b, σ, h, P, P', l, q => by
    refine wpS_mono Γ s σ h _ _ ?_ q
    exact ⟨fun σ' h' z => wpB_mono Γ b σ' h' P P' l z, l.rt, l.bk, l.ct⟩
end
/-- while c: b by an invariant with a number that falls -/
theorem while_inv {Γ : Gam} {c : Ex} {b : Blk} {P : Po} (I : Nat → Sg → Hm → Prop) {m : Nat} {σ : Sg} {h : Hm} (h0 : I m σ h)
    (st : ∀ m σ h, I m σ h → (evT Γ c σ h).wp fun t h1 => match t with
      | true => wpB Γ b σ h1 { P with nx := fun σ' h' => ∃ m', m' < m ∧ I m' σ' h', ct := fun σ' h' => ∃ m', m' < m ∧ I m' σ' h', bk := P.nx }
      | false => P.nx σ h1) : wpS Γ (.while_ c b) σ h P := by
  refine ⟨m + 1, ?_⟩
  have key : ∀ n m σ h, m < n → I m σ h → wpWhile (evT Γ c) (wpB Γ b) n σ h P := by
    intro n
    induction n with
    | zero => intro m σ h l; exact absurd l (Nat.not_lt_zero _)
    | succ n ih =>
      intro m σ h l i
      refine Res.wp_mono (st m σ h i) fun t h1 z => ?_
      cases t with
      | true =>
        refine wpB_mono Γ b _ _ _ _ ?_ z
        exact ⟨fun σ h ⟨m', l', i'⟩ => ih m' σ h (by omega) i', fun _ _ z => z, fun _ _ z => z, fun σ h ⟨m', l', i'⟩ => ih m' σ h (by omega) i'⟩
      | false => exact z
  exact key _ m σ h (Nat.lt_succ_self _) h0
/-- for tg in it: b by an invariant -/
theorem for_inv {Γ : Gam} {tg : Tg} {it : It} {b : Blk} {P : Po} (I : Nat → Sg → Hm → Prop) {σ : Sg} {h h1 : Hm} {xs : List D} (hi : evI Γ it σ h = .ok xs h1) (h0 : I 0 σ h1)
    (st : ∀ i x σ h, xs[i]? = some x → I i σ h → ∃ σ2, asgD tg x σ = some σ2 ∧ wpB Γ b σ2 h { P with nx := I (i + 1), ct := I (i + 1), bk := P.nx })
    (fin : ∀ σ h, I xs.length σ h → P.nx σ h) : wpS Γ (.for_ tg it b) σ h P := by
  refine wp_of_eq hi ?_
  have key : ∀ n i σ h, i + n = xs.length → I i σ h → wpFor (fun x σ1 h2 P1 => match asgD tg x σ1 with
    | some σ2 => wpB Γ b σ2 h2 P1
    | none => False) (xs.drop i) σ h P := by
    intro n
    induction n with
    | zero =>
      intro i σ h e z
      have e : i = xs.length := by omega
      subst e
      rw [List.drop_length]
      exact fin _ _ z
    | succ n ih =>
      intro i σ h e z
      have hl : i < xs.length := by omega
      rw [List.drop_eq_getElem_cons hl]
      obtain ⟨σ2, a1, a2⟩ := st i _ σ h (List.getElem?_eq_getElem hl) z
      unfold wpFor
      rw [a1]
      refine wpB_mono Γ b _ _ _ _ ?_ a2
      exact ⟨fun σ h z => ih (i + 1) σ h (by omega) z, fun _ _ z => z, fun _ _ z => z, fun σ h z => ih (i + 1) σ h (by omega) z⟩
  have := key xs.length 0 σ h1 (by omega) h0
  rwa [List.drop_zero] at this
/-! ### statement by statement -/
section
variable {Γ : Gam} {e c : Ex} {b x y : Blk} {σ : Sg} {h h1 h2 : Hm} {P : Po} {d d2 : D} {i j : Nat}
theorem B_nil (k : P.nx σ h) : wpB Γ .nil σ h P := k
theorem B_set (he : evE Γ e σ h = .ok d h1) (k : wpB Γ b (σ.set i (some d)) h1 P) : wpB Γ (.cons (.set i e) b) σ h P := wp_of_eq he k
theorem B_ex (he : evE Γ e σ h = .ok d h1) (k : wpB Γ b σ h1 P) : wpB Γ (.cons (.ex e) b) σ h P := wp_of_eq he k
theorem B_ret (he : evE Γ e σ h = .ok d h1) (k : P.rt d h1) : wpB Γ (.cons (.ret e) b) σ h P := wp_of_eq he k
theorem B_if {t : Bool} (he : evT Γ c σ h = .ok t h1) (k1 : t = true → wpB Γ x σ h1 { P with nx := fun σ' h' => wpB Γ b σ' h' P }) (k2 : t = false → wpB Γ y σ h1 { P with nx := fun σ' h' => wpB Γ b σ' h' P }) : wpB Γ (.cons (.ife c x y) b) σ h P := by
  refine wp_of_eq he ?_
  cases t with
  | true => exact k1 rfl
  | false => exact k2 rfl
theorem B_ifT (he : evT Γ c σ h = .ok true h1) (k : wpB Γ x σ h1 { P with nx := fun σ' h' => wpB Γ b σ' h' P }) : wpB Γ (.cons (.ife c x y) b) σ h P := wp_of_eq he k
theorem B_ifF (he : evT Γ c σ h = .ok false h1) (k : wpB Γ y σ h1 { P with nx := fun σ' h' => wpB Γ b σ' h' P }) : wpB Γ (.cons (.ife c x y) b) σ h P := wp_of_eq he k
/-- if c: (something that does not go on) -/
theorem B_ifN (he : evT Γ c σ h = .ok false h1) (k : wpB Γ b σ h1 P) : wpB Γ (.cons (.ife c x .nil) b) σ h P := wp_of_eq he k
theorem B_par {f g : Ex} (he : evE Γ f σ h = .ok d h1) (hg : evE Γ g σ h1 = .ok d2 h2) (k : wpB Γ b ((σ.set i (some d)).set j (some d2)) h2 P) : wpB Γ (.cons (.par i j f g) b) σ h P := wp_of_eq he (wp_of_eq hg k)
theorem B_asg {is : List Nat} {σ' : Sg} (he : evE Γ e σ h = .ok d h1) (ha : asgD (.tup is) d σ = some σ') (k : wpB Γ b σ' h1 P) : wpB Γ (.cons (.asg is e) b) σ h P := by
  refine wp_of_eq he ?_
  dsimp only
  rw [ha]
  exact k
theorem B_setix {o k : Ex} {n m : Nat} {z : Int} {xs : List D} {h3 : Hm} (he : evE Γ e σ h = .ok d h1) (ho : evE Γ o σ h1 = .ok (.ref n) h2) (hk : evE Γ k σ h2 = .ok (.int z) h3) (hl : listOf? h3 n = some xs) (hm : ixN xs.length z = some m)
    (q : wpB Γ b σ (h3.set n (.lst (xs.set m d))) P) : wpB Γ (.cons (.setix o k e) b) σ h P := by
  refine wp_of_eq he (wp_of_eq ho (wp_of_eq hk ?_))
  dsimp only
  rw [hl]
  dsimp only
  rw [hm]
  exact q
theorem B_freeze {n : Nat} {xs : List D} (hi : σ[i]? = some (some (.ref n))) (hl : listOf? h n = some xs) (q : wpB Γ b (σ.set i (some (.lst xs))) (h.set n .gone) P) : wpB Γ (.cons (.freeze i) b) σ h P := by
  show (match σ[i]? with
    | some (some (.ref n)) => match listOf? h n with
      | some xs => wpB Γ b (σ.set i (some (.lst xs))) (h.set n .gone) P
      | none => False
    | _ => False)
  rw [hi]
  dsimp only
  rw [hl]
  exact q
theorem B_for {tg : Tg} {it : It} {xs : List D} (I : Nat → Sg → Hm → Prop) (hi : evI Γ it σ h = .ok xs h1) (h0 : I 0 σ h1)
    (st : ∀ i x1 σ h, xs[i]? = some x1 → I i σ h → ∃ σ2, asgD tg x1 σ = some σ2 ∧ wpB Γ x σ2 h { nx := I (i + 1), ct := I (i + 1), bk := fun σ' h' => wpB Γ b σ' h' P, rt := P.rt })
    (fin : ∀ σ h, I xs.length σ h → wpB Γ b σ h P) : wpB Γ (.cons (.for_ tg it x) b) σ h P := for_inv (P := { P with nx := fun σ' h' => wpB Γ b σ' h' P }) I hi h0 st fin
theorem B_while (I : Nat → Sg → Hm → Prop) {m : Nat} (h0 : I m σ h)
    (st : ∀ m σ h, I m σ h → ∃ t h1, evT Γ c σ h = .ok t h1 ∧ (t = true → wpB Γ x σ h1 { nx := fun σ' h' => ∃ m', m' < m ∧ I m' σ' h', ct := fun σ' h' => ∃ m', m' < m ∧ I m' σ' h', bk := fun σ' h' => wpB Γ b σ' h' P, rt := P.rt }) ∧
      (t = false → wpB Γ b σ h1 P)) : wpB Γ (.cons (.while_ c x) b) σ h P := while_inv (P := { P with nx := fun σ' h' => wpB Γ b σ' h' P }) I h0 fun m σ h i => by
  obtain ⟨t, h1, e, k1, k2⟩ := st m σ h i
  refine wp_of_eq e ?_
  cases t with
  | true => exact k1 rfl
  | false => exact k2 rfl
theorem E_call {f : Nat} {es : Exs} {ds : List D} {den : List D → Hm → Res D} {r : D} (hg : Γ.fn f = some den) (he : evEs Γ es σ h = .ok ds h1) (hd : den ds h1 = .ok r h2) : evE Γ (.call f es) σ h = .ok r h2 := by
  show (evEs Γ es σ h).bind _ = _
  rw [he, Res.bind_ok, hg]
  exact hd
theorem E_bandT {f g : Ex} (he : evE Γ f σ h = .ok (.bl true) h1) (hg : evE Γ g σ h1 = .ok d h2) : evE Γ (.band f g) σ h = .ok d h2 := by
  show (evE Γ f σ h).bind _ = _
  rw [he]
  exact hg
theorem E_bandF {f g : Ex} (he : evE Γ f σ h = .ok (.bl false) h1) : evE Γ (.band f g) σ h = .ok (.bl false) h1 := by
  show (evE Γ f σ h).bind _ = _
  rw [he]
  rfl
theorem E_bi1 {f : Ex} {bb : Bi} (he : evE Γ f σ h = .ok d h1) (hg : biD bb [d] h1 = .ok d2 h2) : evE Γ (.bi bb (.cons f .nil)) σ h = .ok d2 h2 := by
  show ((evE Γ f σ h).bind fun x h1 => (Res.ok [] h1).bind fun xs h2 => Res.ok (x :: xs) h2).bind _ = _
  rw [he]
  exact hg
theorem T_of_E {bb : Bi} {es : Exs} {t : Bool} (he : evE Γ (.bi bb es) σ h = .ok (.bl t) h1) : evT Γ (.bi bb es) σ h = .ok t h1 := by
  have he : (evEs Γ es σ h).bind (fun ds h1 => biD bb ds h1) = .ok (.bl t) h1 := he
  show (evEs Γ es σ h).bind (fun ds h1 => (biD bb ds h1).bind trD) = _
  cases k : evEs Γ es σ h with
  | stuck => rw [k] at he; cases he
  | ok ds h2 =>
    rw [k] at he
    have he : biD bb ds h2 = .ok (.bl t) h1 := he
    rw [Res.bind_ok, he]
    rfl
theorem T_call {f : Nat} {es : Exs} {t : Bool} (he : evE Γ (.call f es) σ h = .ok (.bl t) h1) : evT Γ (.call f es) σ h = .ok t h1 := by
  have he : (evEs Γ es σ h).bind (fun ds h1 => match Γ.fn f with | some den => den ds h1 | none => .stuck) = .ok (.bl t) h1 := he
  show (evEs Γ es σ h).bind (fun ds h1 => match Γ.fn f with | some den => (den ds h1).bind trD | none => .stuck) = _
  cases k : evEs Γ es σ h with
  | stuck => rw [k] at he; cases he
  | ok ds h2 =>
    rw [k] at he
    rw [Res.bind_ok] at he ⊢
    cases k2 : Γ.fn f with
    | none => rw [k2] at he; cases he
    | some den =>
      rw [k2] at he
      have he : den ds h2 = .ok (.bl t) h1 := he
      dsimp only
      rw [he]
      rfl
theorem T_not {f : Ex} {t : Bool} (he : evT Γ f σ h = .ok t h1) : evT Γ (.bnot f) σ h = .ok (!t) h1 := by
  show (evT Γ f σ h).bind _ = _
  rw [he]
  rfl
theorem T_borF {f g : Ex} {t : Bool} (he : evT Γ f σ h = .ok false h1) (hg : evT Γ g σ h1 = .ok t h2) : evT Γ (.bor f g) σ h = .ok t h2 := by
  show (evT Γ f σ h).bind _ = _
  rw [he]
  exact hg
theorem T_borT {f g : Ex} (he : evT Γ f σ h = .ok true h1) : evT Γ (.bor f g) σ h = .ok true h1 := by
  show (evT Γ f σ h).bind _ = _
  rw [he]
  rfl
theorem T_bandT {f g : Ex} {t : Bool} (he : evT Γ f σ h = .ok true h1) (hg : evT Γ g σ h1 = .ok t h2) : evT Γ (.band f g) σ h = .ok t h2 := by
  show (evT Γ f σ h).bind _ = _
  rw [he]
  exact hg
theorem T_bandF {f g : Ex} (he : evT Γ f σ h = .ok false h1) : evT Γ (.band f g) σ h = .ok false h1 := by
  show (evT Γ f σ h).bind _ = _
  rw [he]
  rfl
theorem T_cmp {o : Cm} {f g : Ex} {t : Bool} {h3 : Hm} (he : evE Γ f σ h = .ok d h1) (hg : evE Γ g σ h1 = .ok d2 h2) (hc : cmpD o d d2 h2 = .ok t h3) : evT Γ (.cmp o f g) σ h = .ok t h3 := by
  show (evE Γ f σ h).bind _ = _
  rw [he, Res.bind_ok, hg]
  exact hc
theorem E_cmp {o : Cm} {f g : Ex} {t : Bool} {h3 : Hm} (he : evE Γ f σ h = .ok d h1) (hg : evE Γ g σ h1 = .ok d2 h2) (hc : cmpD o d d2 h2 = .ok t h3) : evE Γ (.cmp o f g) σ h = .ok (.bl t) h3 := by
  show (evE Γ f σ h).bind _ = _
  rw [he, Res.bind_ok, hg, Res.bind_ok, hc]
  rfl
theorem E_op2 {o : Op2} {f g : Ex} {h3 : Hm} {r : D} (he : evE Γ f σ h = .ok d h1) (hg : evE Γ g σ h1 = .ok d2 h2) (hc : opD o d d2 h2 = .ok r h3) : evE Γ (.op2 o f g) σ h = .ok r h3 := by
  show (evE Γ f σ h).bind _ = _
  rw [he, Res.bind_ok, hg]
  exact hc
theorem Es_nil : evEs Γ .nil σ h = .ok [] h := rfl
theorem Es_cons {f : Ex} {es : Exs} {ds : List D} (he : evE Γ f σ h = .ok d h1) (hg : evEs Γ es σ h1 = .ok ds h2) : evEs Γ (.cons f es) σ h = .ok (d :: ds) h2 := by
  show (evE Γ f σ h).bind _ = _
  rw [he, Res.bind_ok, hg]
  rfl
theorem E_lst {es : Exs} {ds : List D} (he : evEs Γ es σ h = .ok ds h1) (hl : ds.length ≤ 1000) : evE Γ (.lst es) σ h = .ok (.lst ds) h1 := by
  show (evEs Γ es σ h).bind _ = _
  rw [he, Res.bind_ok, decide_eq_true (show ds.length ≤ LIM from Nat.le_trans hl (by decide))]
  rfl
theorem E_tup {es : Exs} {ds : List D} (he : evEs Γ es σ h = .ok ds h1) (hl : ds.length ≤ 1000) : evE Γ (.tup es) σ h = .ok (.tup ds) h1 := by
  show (evEs Γ es σ h).bind _ = _
  rw [he, Res.bind_ok, decide_eq_true (show ds.length ≤ LIM from Nat.le_trans hl (by decide))]
  rfl
theorem E_ix {f g : Ex} {h3 : Hm} {r : D} (he : evE Γ f σ h = .ok d h1) (hg : evE Γ g σ h1 = .ok d2 h2) (hc : ixD d d2 h2 = .ok r h3) : evE Γ (.ix f g) σ h = .ok r h3 := by
  show (evE Γ f σ h).bind _ = _
  rw [he, Res.bind_ok, hg]
  exact hc
theorem E_callk {f : Nat} {es ks : Exs} {perm : List Nat} {ds zs : List D} {den : List D → Hm → Res D} {r : D} {h3 : Hm} (hg : Γ.fn f = some den) (he : evEs Γ es σ h = .ok ds h1) (hk : evEs Γ ks σ h1 = .ok zs h2) (hd : den (permV perm D.non ds zs) h2 = .ok r h3) : evE Γ (.callk f es ks perm) σ h = .ok r h3 := by
  show (evEs Γ es σ h).bind _ = _
  rw [he, Res.bind_ok, hk, Res.bind_ok, hg]
  exact hd
theorem T_callk {f : Nat} {es ks : Exs} {perm : List Nat} {t : Bool} (he : evE Γ (.callk f es ks perm) σ h = .ok (.bl t) h1) : evT Γ (.callk f es ks perm) σ h = .ok t h1 := by
  have he : (evEs Γ es σ h).bind (fun ds h1 => (evEs Γ ks σ h1).bind fun ks h2 => match Γ.fn f with | some den => den (permV perm D.non ds ks) h2 | none => .stuck) = .ok (.bl t) h1 := he
  show (evEs Γ es σ h).bind (fun ds h1 => (evEs Γ ks σ h1).bind fun ks h2 => match Γ.fn f with | some den => (den (permV perm D.non ds ks) h2).bind trD | none => .stuck) = _
  cases k : evEs Γ es σ h with
  | stuck => rw [k] at he; cases he
  | ok ds h2 =>
    rw [k, Res.bind_ok] at he
    rw [Res.bind_ok]
    cases k1 : evEs Γ ks σ h2 with
    | stuck => rw [k1] at he; cases he
    | ok zs h3 =>
      rw [k1, Res.bind_ok] at he
      rw [Res.bind_ok]
      cases k2 : Γ.fn f with
      | none => rw [k2] at he; cases he
      | some den =>
        rw [k2] at he
        have he : den (permV perm D.non ds zs) h3 = .ok (.bl t) h1 := he
        dsimp only
        rw [he]
        rfl
end
/-- a comprehension without changes: the list of what f tells -/
theorem comp_pure {f : D → Hm → Res (Option D)} {g : D → Option D} {h : Hm} : ∀ {xs acc : List D}, (∀ x ∈ xs, ∀ t, f x (h ++ [t]) = .ok (g x) (h ++ [t])) → acc.length + xs.length ≤ LIM →
    compLoop f h.length xs (h ++ [MO.lst acc]) = .ok () (h ++ [MO.lst (acc ++ xs.filterMap g)])
  | [], acc, _, _ => by simp [compLoop]
  | x :: xs, acc, hf, hl => by
    have e1 := hf x List.mem_cons_self (.lst acc)
    have hl' : acc.length + (xs.length + 1) ≤ LIM := hl
    unfold compLoop
    rw [e1]
    cases k : g x with
    | none =>
      show compLoop f h.length xs (h ++ [MO.lst acc]) = _
      rw [comp_pure (fun y hy => hf y (List.mem_cons_of_mem _ hy)) (by omega), List.filterMap_cons_none k]
    | some y =>
      have e2 : listOf? (h ++ [MO.lst acc]) h.length = some acc := by
        unfold listOf?
        rw [List.getElem?_append_right (Nat.le_refl _)]
        simp
      have e3 : (h ++ [MO.lst acc]).set h.length (.lst (acc ++ [y])) = h ++ [MO.lst (acc ++ [y])] := by
        rw [List.set_append_right _ _ (Nat.le_refl _)]
        simp
      rw [Res.bind_ok]
      dsimp only
      rw [e2]
      dsimp only
      have e4 : (h ++ [MO.lst acc]).set h.length (.lst (acc ++ [y])) = h ++ [MO.lst (acc ++ [y])] := e3
      rw [decide_eq_true (show acc.length < LIM by omega), Res.guard_true, e4, comp_pure (fun y hy => hf y (List.mem_cons_of_mem _ hy)) (by rw [List.length_append]; simp; omega), List.filterMap_cons_some k, List.append_assoc]
      rfl
theorem endC_pure {h : Hm} {ys : List D} (b : belowDs h.length ys = true) : endC h (h ++ [MO.lst ys]) ys = h := by
  unfold endC
  rw [if_pos]
  refine ⟨⟨?_, ?_⟩, b⟩
  · simp
  · simp
/-- [elt for tg in it if cond], nothing changed -/
theorem ev_comp {Γ : Gam} {own : List (Str × Nat)} {tg : Tg} {it : It} {cond : Exs} {elt : Ex} {σ : Sg} {h h1 : Hm} {src : List D} (g : D → Option D) (hi : evI Γ it σ h = .ok src h1)
    (hg : ∀ x ∈ src, ∀ t, ∃ σ', asgD tg x (wipeD σ (own.map (·.2))) = some σ' ∧ (match g x with
      | some y => evTs Γ cond σ' (h1 ++ [t]) = .ok true (h1 ++ [t]) ∧ evE Γ elt σ' (h1 ++ [t]) = .ok y (h1 ++ [t])
      | none => evTs Γ cond σ' (h1 ++ [t]) = .ok false (h1 ++ [t])))
    (hl : src.length ≤ LIM) (hb : ∀ x ∈ src, ∀ y, g x = some y → belowD h1.length y = true) : evE Γ (.comp false own tg it cond elt) σ h = .ok (.lst (src.filterMap g)) h1 := by
  have b : belowDs h1.length (src.filterMap g) = true := belowDs_of fun y hy => by
    obtain ⟨x, hx, e⟩ := List.mem_filterMap.mp hy
    exact hb x hx y e
  unfold evE
  rw [hi]
  show (compLoop _ h1.length src (h1 ++ [MO.lst []])).bind _ = _
  rw [comp_pure (g := g) (fun x hx t => ?_) (by simpa using hl)]
  · show (match listOf? (h1 ++ [MO.lst ([] ++ src.filterMap g)]) h1.length with
      | some ys => Res.ok (D.lst ys) (endC h1 (h1 ++ [MO.lst ([] ++ src.filterMap g)]) ys)
      | none => .stuck) = _
    have e2 : listOf? (h1 ++ [MO.lst ([] ++ src.filterMap g)]) h1.length = some (src.filterMap g) := by
      unfold listOf?
      rw [List.getElem?_append_right (Nat.le_refl _)]
      simp
    rw [e2]
    dsimp only
    rw [List.nil_append, endC_pure b]
  · obtain ⟨σ', a1, a2⟩ := hg x hx t
    rw [a1]
    dsimp only
    cases k : g x with
    | none =>
      rw [k] at a2
      dsimp only at a2
      rw [a2]
      rfl
    | some y =>
      rw [k] at a2
      dsimp only at a2
      rw [a2.1]
      show (evE Γ elt σ' (h1 ++ [t])).bind _ = _
      rw [a2.2]
      rfl
theorem lim0 : decide (0 ≤ LIM) = true := rfl
theorem lim1 : decide (1 ≤ LIM) = true := rfl
theorem lim2 : decide (2 ≤ LIM) = true := rfl
theorem lim3 : decide (3 ≤ LIM) = true := rfl
theorem lim4 : decide (4 ≤ LIM) = true := rfl
theorem lim5 : decide (5 ≤ LIM) = true := rfl
theorem lim6 : decide (6 ≤ LIM) = true := rfl
theorem lim7 : decide (7 ≤ LIM) = true := rfl
theorem lim8 : decide (8 ≤ LIM) = true := rfl
theorem lim9 : decide (9 ≤ LIM) = true := rfl
theorem lim10 : decide (10 ≤ LIM) = true := rfl
theorem lim11 : decide (11 ≤ LIM) = true := rfl
theorem lim12 : decide (12 ≤ LIM) = true := rfl
theorem lim13 : decide (13 ≤ LIM) = true := rfl
theorem lim14 : decide (14 ≤ LIM) = true := rfl
theorem lim15 : decide (15 ≤ LIM) = true := rfl
theorem lim16 : decide (16 ≤ LIM) = true := rfl
theorem lim17 : decide (17 ≤ LIM) = true := rfl
theorem lim18 : decide (18 ≤ LIM) = true := rfl
theorem lim19 : decide (19 ≤ LIM) = true := rfl
theorem lim20 : decide (20 ≤ LIM) = true := rfl
theorem lim21 : decide (21 ≤ LIM) = true := rfl
theorem lim22 : decide (22 ≤ LIM) = true := rfl
theorem lim23 : decide (23 ≤ LIM) = true := rfl
theorem lim24 : decide (24 ≤ LIM) = true := rfl
theorem lim25 : decide (25 ≤ LIM) = true := rfl
theorem lim26 : decide (26 ≤ LIM) = true := rfl
theorem lim27 : decide (27 ≤ LIM) = true := rfl
theorem lim28 : decide (28 ≤ LIM) = true := rfl
theorem lim29 : decide (29 ≤ LIM) = true := rfl
theorem lim30 : decide (30 ≤ LIM) = true := rfl
theorem lim31 : decide (31 ≤ LIM) = true := rfl
theorem lim32 : decide (32 ≤ LIM) = true := rfl
theorem lim33 : decide (33 ≤ LIM) = true := rfl
theorem lim34 : decide (34 ≤ LIM) = true := rfl
theorem lim35 : decide (35 ≤ LIM) = true := rfl
theorem lim36 : decide (36 ≤ LIM) = true := rfl
theorem lim37 : decide (37 ≤ LIM) = true := rfl
theorem lim38 : decide (38 ≤ LIM) = true := rfl
theorem lim39 : decide (39 ≤ LIM) = true := rfl
theorem lim40 : decide (40 ≤ LIM) = true := rfl
theorem ixN_nat {n i : Nat} (h : i < n) : ixN n (i : Int) = some i := by
  unfold ixN
  rw [if_pos (Int.natCast_nonneg i), if_pos (by omega)]
  rfl
theorem atI_nat {α : Type} {xs : List α} {i : Nat} (h : i < xs.length) : atI xs (i : Int) = xs[i]? := by
  unfold atI
  rw [ixN_nat h]
  rfl
theorem at0 {α : Type} (x : α) (xs : List α) : atI (x :: xs) 0 = some x := by
  have := atI_nat (xs := x :: xs) (i := 0) (by simp)
  simpa using this
theorem at1 {α : Type} (x y : α) (xs : List α) : atI (x :: y :: xs) 1 = some y := by
  have := atI_nat (xs := x :: y :: xs) (i := 1) (by simp)
  simpa using this
theorem at2 {α : Type} (x y z : α) (xs : List α) : atI (x :: y :: z :: xs) 2 = some z := by
  have := atI_nat (xs := x :: y :: z :: xs) (i := 2) (by simp)
  simpa using this
theorem at3 {α : Type} (x y z u : α) (xs : List α) : atI (x :: y :: z :: u :: xs) 3 = some u := by
  have := atI_nat (xs := x :: y :: z :: u :: xs) (i := 3) (by simp)
  simpa using this
/-- the reading of a body, as far as it computes -/
local macro_rules | `(tactic| fail "mini mw") => `(tactic| simp only [wipeD, wpB, wpS, evE, evEs, evT, evTs, evO, evI, startD, List.map, List.length, List.replicate, List.append, List.cons_append, List.nil_append, List.getElem?_cons_zero, List.getElem?_cons_succ, List.getElem?_nil, List.set_cons_zero, List.set_cons_succ, List.set_nil, Nat.sub_self, Nat.reduceSub, Nat.reduceAdd, Nat.reduceMul, Nat.reduceEqDiff, List.replicate_zero, List.replicate_succ, List.append_nil, Res.bind_ok, Res.bind_stuck, Res.guard_true, Res.guard_false, Res.wp_ok, Res.wp_stuck, asgD, setAll, if_true, if_false, Bool.not_true, Bool.not_false, decide_true, decide_false, decide_eq_true_eq, Bool.false_eq_true, lim0, lim1, lim2, lim3, lim4, lim5, lim6, lim7, lim8, lim9, lim10, lim11, lim12, lim13, lim14, lim15, lim16, lim17, lim18, lim19, lim20, lim21, lim22, lim23, lim24, lim25, lim26, lim27, lim28, lim29, lim30, lim31, lim32, lim33, lim34, lim35, lim36, lim37, lim38, lim39, lim40, at0, at1, at2, at3, ty_int_non, ty_int_bl, ty_int_int, ty_int_str, ty_int_tup, ty_int_lst, ty_int_ref, ty_int_wtup, ty_bool_non, ty_bool_bl, ty_bool_int, ty_bool_str, ty_bool_tup, ty_bool_lst, ty_bool_ref, ty_bool_wtup, ty_str_non, ty_str_bl, ty_str_int, ty_str_str, ty_str_tup, ty_str_lst, ty_str_ref, ty_str_wtup, ty_tuple_non, ty_tuple_bl, ty_tuple_int, ty_tuple_str, ty_tuple_tup, ty_tuple_lst, ty_tuple_ref, ty_tuple_wtup, ty_list_non, ty_list_bl, ty_list_int, ty_list_str, ty_list_tup, ty_list_lst, ty_list_ref, ty_list_wtup, open_non, isNon_non, open_bl, isNon_bl, open_int, isNon_int, open_str, isNon_str, open_tup, isNon_tup, open_lst, isNon_lst, open_wtup, isNon_wtup, isNon_ref, open_ref, op_addI, op_addS, op_addL, op_addT, op_addML, op_subI, op_mulI, op_fdivI, op_modI, op_powI, cm_lt, cm_le, cm_gt, cm_ge, cm_eq, cm_ne, bi_lenT, bi_lenL, bi_lenS, bi_abs, bi_intI, bi_intB, bi_tupT, bi_tupL, bi_lstT, bi_lstL, bi_allL, bi_anyL, bi_sortedL, ix_tup, ix_lst, ix_ref, tr_bl, it_tup, it_lst, eq_int, eq_bl, lst_lst, lst_ref])
/-- of an expression -/
local macro_rules | `(tactic| fail "mini ew") => `(tactic| simp only [wipeD, evE, evEs, evT, evTs, evO, evI, startD, List.map, List.length, List.replicate, List.append, List.cons_append, List.nil_append, List.getElem?_cons_zero, List.getElem?_cons_succ, List.getElem?_nil, List.set_cons_zero, List.set_cons_succ, List.set_nil, Nat.sub_self, Nat.reduceSub, Nat.reduceAdd, Nat.reduceMul, Nat.reduceEqDiff, List.replicate_zero, List.replicate_succ, List.append_nil, Res.bind_ok, Res.bind_stuck, Res.guard_true, Res.guard_false, Res.wp_ok, Res.wp_stuck, asgD, setAll, if_true, if_false, Bool.not_true, Bool.not_false, decide_true, decide_false, decide_eq_true_eq, Bool.false_eq_true, lim0, lim1, lim2, lim3, lim4, lim5, lim6, lim7, lim8, lim9, lim10, lim11, lim12, lim13, lim14, lim15, lim16, lim17, lim18, lim19, lim20, lim21, lim22, lim23, lim24, lim25, lim26, lim27, lim28, lim29, lim30, lim31, lim32, lim33, lim34, lim35, lim36, lim37, lim38, lim39, lim40, at0, at1, at2, at3, ty_int_non, ty_int_bl, ty_int_int, ty_int_str, ty_int_tup, ty_int_lst, ty_int_ref, ty_int_wtup, ty_bool_non, ty_bool_bl, ty_bool_int, ty_bool_str, ty_bool_tup, ty_bool_lst, ty_bool_ref, ty_bool_wtup, ty_str_non, ty_str_bl, ty_str_int, ty_str_str, ty_str_tup, ty_str_lst, ty_str_ref, ty_str_wtup, ty_tuple_non, ty_tuple_bl, ty_tuple_int, ty_tuple_str, ty_tuple_tup, ty_tuple_lst, ty_tuple_ref, ty_tuple_wtup, ty_list_non, ty_list_bl, ty_list_int, ty_list_str, ty_list_tup, ty_list_lst, ty_list_ref, ty_list_wtup, open_non, isNon_non, open_bl, isNon_bl, open_int, isNon_int, open_str, isNon_str, open_tup, isNon_tup, open_lst, isNon_lst, open_wtup, isNon_wtup, isNon_ref, open_ref, op_addI, op_addS, op_addL, op_addT, op_addML, op_subI, op_mulI, op_fdivI, op_modI, op_powI, cm_lt, cm_le, cm_gt, cm_ge, cm_eq, cm_ne, bi_lenT, bi_lenL, bi_lenS, bi_abs, bi_intI, bi_intB, bi_tupT, bi_tupL, bi_lstT, bi_lstL, bi_allL, bi_anyL, bi_sortedL, ix_tup, ix_lst, ix_ref, tr_bl, it_tup, it_lst, eq_int, eq_bl, lst_lst, lst_ref])
/-- a comprehension whose list may be written on -/
theorem ev_compM {Γ : Gam} {own : List (Str × Nat)} {tg : Tg} {it : It} {cond : Exs} {elt : Ex} {σ : Sg} {h h1 : Hm} {src : List D} (g : D → Option D) (hi : evI Γ it σ h = .ok src h1)
    (hg : ∀ x ∈ src, ∀ t, ∃ σ', asgD tg x (wipeD σ (own.map (·.2))) = some σ' ∧ (match g x with
      | some y => evTs Γ cond σ' (h1 ++ [t]) = .ok true (h1 ++ [t]) ∧ evE Γ elt σ' (h1 ++ [t]) = .ok y (h1 ++ [t])
      | none => evTs Γ cond σ' (h1 ++ [t]) = .ok false (h1 ++ [t])))
    (hl : src.length ≤ LIM) : evE Γ (.comp true own tg it cond elt) σ h = .ok (.ref h1.length) (h1 ++ [MO.lst (src.filterMap g)]) := by
  unfold evE
  rw [hi]
  show (compLoop _ h1.length src (h1 ++ [MO.lst []])).bind _ = _
  rw [comp_pure (g := g) (fun x hx t => ?_) (by simpa using hl)]
  · have e2 : listOf? (h1 ++ [MO.lst ([] ++ src.filterMap g)]) h1.length = some (src.filterMap g) := by
      unfold listOf?
      rw [List.getElem?_append_right (Nat.le_refl _)]
      simp
    rw [Res.bind_ok, e2]
    dsimp only
    rw [List.nil_append]
  · obtain ⟨σ', a1, a2⟩ := hg x hx t
    rw [a1]
    dsimp only
    cases k : g x with
    | none =>
      rw [k] at a2
      dsimp only at a2
      rw [a2]
      rfl
    | some y =>
      rw [k] at a2
      dsimp only at a2
      rw [a2.1]
      show (evE Γ elt σ' (h1 ++ [t])).bind _ = _
      rw [a2.2]
      rfl
theorem mulOk_r {i j : Int} (h1 : -(2 ^ 64) < j) (h2 : j < 2 ^ 64) : mulOk i j = true := by
  unfold mulOk
  rw [decide_eq_true h1, decide_eq_true h2, Bool.and_self, Bool.or_true]
theorem mulOk_l {i j : Int} (h1 : -(2 ^ 64) < i) (h2 : i < 2 ^ 64) : mulOk i j = true := by
  unfold mulOk
  rw [decide_eq_true h1, decide_eq_true h2, Bool.and_self, Bool.or_true, Bool.true_or]
theorem divOk_of {j : Int} (h0 : j ≠ 0) (h : j.natAbs.log2 < 9000) : divOk j = true := by
  unfold divOk
  rw [decide_eq_true h0, decide_eq_true h]
  rfl
theorem ints_map : ∀ zs : List Int, intsOf (zs.map D.int) = some zs
  | [] => rfl
  | z :: zs => by
    show (intsOf (zs.map D.int)).map (z :: ·) = _
    rw [ints_map zs]
    rfl
theorem ints_eq : ∀ {xs : List D} {zs : List Int}, intsOf xs = some zs → xs = zs.map D.int
  | [], _, e => by cases e; rfl
  | x :: xs, zs, e => by
    cases x <;> first | cases e | skip
    rename_i z
    have e : (intsOf xs).map (z :: ·) = some zs := e
    cases k : intsOf xs with
    | none => rw [k] at e; cases e
    | some ys =>
      rw [k] at e
      cases e
      rw [ints_eq k]
      rfl
theorem listOf_app {h t : Hm} {n : Nat} (hn : n < h.length) : listOf? (h ++ t) n = listOf? h n := by
  unfold listOf?
  rw [List.getElem?_append_left hn]
theorem listOf_lt {h : Hm} {n : Nat} {xs : List D} (e : listOf? h n = some xs) : n < h.length := (List.getElem?_eq_some_iff.mp (listOf_eq e)).1
theorem listOf_set_same {h : Hm} {n : Nat} {xs : List D} (hn : n < h.length) : listOf? (h.set n (.lst xs)) n = some xs := by
  unfold listOf?
  rw [List.getElem?_set_self hn]
theorem listOf_set_ne {h : Hm} {n m : Nat} {o : MO} (hn : n ≠ m) : listOf? (h.set n o) m = listOf? h m := by
  unfold listOf?
  rw [List.getElem?_set_ne hn]
theorem listOf_new {h t : Hm} {xs : List D} : listOf? (h ++ MO.lst xs :: t) h.length = some xs := by
  unfold listOf?
  rw [List.getElem?_append_right (Nat.le_refl _)]
  simp
theorem canLay_ints : ∀ zs : List Int, toPys (zs.map D.int) = some (zs.map PyData.int) ∧ PyData.canLayAll0 (zs.map PyData.int) = true ∧ PyData.depthAll (zs.map PyData.int) = 0
  | [] => ⟨rfl, rfl, rfl⟩
  | z :: zs => by
    obtain ⟨a, b, c⟩ := canLay_ints zs
    refine ⟨?_, ?_, ?_⟩
    · show (match toPy (.int z), toPys (zs.map D.int) with | some p, some ps => some (p :: ps) | _, _ => none) = _
      rw [a]
      rfl
    · show (PyData.canLay0 (.int z) && PyData.canLayAll0 (zs.map PyData.int)) = true
      rw [b]
      rfl
    · show max (PyData.depth (.int z)) (PyData.depthAll (zs.map PyData.int)) = 0
      rw [c]
      rfl
/-- xs == [] of a list of ints -/
theorem eq_nil {h : Hm} {n : Nat} {zs : List Int} (e : listOf? h n = some (zs.map D.int)) : eqD (.ref n) (.lst []) h = .ok zs.isEmpty h := by
  obtain ⟨a, b, c⟩ := canLay_ints zs
  unfold eqD
  have e1 : toPyH h (.ref n) = some (.list (zs.map PyData.int)) := by
    show ((listOf? h n).bind toPys).map PyData.list = _
    rw [e]
    show (toPys (zs.map D.int)).map PyData.list = _
    rw [a]
    rfl
  have e2 : toPyH h (.lst []) = some (.list []) := rfl
  rw [e1, e2]
  have s1 : SeqAt.shaped (.list (zs.map PyData.int)) = true := by
    unfold SeqAt.shaped
    show (PyData.canLayAll0 (zs.map PyData.int) && decide (PyData.depthAll (zs.map PyData.int) + 1 ≤ 64)) = true
    rw [b, c]
    rfl
  have s2 : SeqAt.shaped (.list []) = true := rfl
  dsimp only
  rw [s1, s2]
  cases zs <;> rfl
theorem pop0 {h : Hm} {n : Nat} {y : D} {ys : List D} (e : listOf? h n = some (y :: ys)) : mtD .popAt (.ref n) [.int 0] h = .ok y (h.set n (.lst ys)) := by
  show (match listOf? h n with
      | some xs => match (if 0 ≤ (0 : Int) ∧ (0 : Int) < xs.length then xs[(0 : Int).toNat]? else none) with
        | some y => Res.ok y (h.set n (.lst (xs.eraseIdx (0 : Int).toNat)))
        | none => .stuck
      | none => .stuck) = _
  rw [e]
  dsimp only
  rw [if_pos ⟨by decide, by rw [List.length_cons]; omega⟩]
  rfl
theorem rcv_pop {h : Hm} {n : Nat} {xs : List D} (e : listOf? h n = some xs) : rcvD .popAt (.ref n) h = true := by
  show (listOf? h n).isSome = true
  rw [e]
  rfl
theorem rcv_app {h : Hm} {n : Nat} {xs : List D} (e : listOf? h n = some xs) : rcvD .append (.ref n) h = true := by
  show (listOf? h n).isSome = true
  rw [e]
  rfl
theorem app1 {h : Hm} {n : Nat} {xs : List D} {x : D} (e : listOf? h n = some xs) (hl : xs.length < LIM) : mtD .append (.ref n) [x] h = .ok .non (h.set n (.lst (xs ++ [x]))) := by
  show (match listOf? h n with
    | some xs => Res.guard (decide (xs.length < LIM)) (Res.ok D.non (h.set n (.lst (xs ++ [x]))))
    | none => .stuck) = _
  rw [e]
  dsimp only
  rw [decide_eq_true hl]
  rfl
theorem set_same {h : Hm} {n : Nat} {xs : List D} (e : listOf? h n = some xs) : h.set n (.lst xs) = h := by
  have e := listOf_eq e
  apply List.ext_getElem?
  intro i
  by_cases c : n = i
  · subst c
    rw [e, List.getElem?_set_self (List.getElem?_eq_some_iff.mp e).1]
  · rw [List.getElem?_set_ne c]
/-! ### plain data: equal to itself -/
def plainD : Nat → D → Bool
  | _, .non => true
  | _, .bl _ => true
  | _, .int _ => true
  | _, .str x => PyData.strOk x
  | k + 1, .tup xs => decide (xs.length ≤ 1000) && xs.all (plainD k)
  | k + 1, .lst xs => decide (xs.length ≤ 1000) && xs.all (plainD k)
  | _, _ => false
theorem eqvAll_refl : ∀ {ps : List PyData}, (∀ p ∈ ps, PyData.eqv p p = true) → PyData.eqvAll ps ps = true
  | [], _ => rfl
  | p :: ps, h => by
    show (PyData.eqv p p && PyData.eqvAll ps ps) = true
    rw [h p List.mem_cons_self, eqvAll_refl fun q hq => h q (List.mem_cons_of_mem _ hq)]
    rfl
theorem plain_py : ∀ (k : Nat) (d : D), plainD k d = true → ∃ p, toPy d = some p ∧ PyData.canLay0 p = true ∧ PyData.depth p ≤ k ∧ PyData.eqv p p = true := by
  intro k
  have key : ∀ (k : Nat), (∀ d, plainD k d = true → ∃ p, toPy d = some p ∧ PyData.canLay0 p = true ∧ PyData.depth p ≤ k ∧ PyData.eqv p p = true) →
      ∀ xs : List D, xs.all (plainD k) = true → ∃ ps, toPys xs = some ps ∧ PyData.canLayAll0 ps = true ∧ PyData.depthAll ps ≤ k ∧ PyData.eqvAll ps ps = true := by
    intro k ih xs
    induction xs with
    | nil => exact fun _ => ⟨[], rfl, rfl, Nat.zero_le _, rfl⟩
    | cons x xs ihx =>
      intro h
      rw [List.all_cons, Bool.and_eq_true] at h
      obtain ⟨p, a1, a2, a3, a4⟩ := ih x h.1
      obtain ⟨ps, b1, b2, b3, b4⟩ := ihx h.2
      refine ⟨p :: ps, ?_, ?_, ?_, ?_⟩
      · show (match toPy x, toPys xs with | some p, some ps => some (p :: ps) | _, _ => none) = _
        rw [a1, b1]
      · show (PyData.canLay0 p && PyData.canLayAll0 ps) = true
        rw [a2, b2]
        rfl
      · show max (PyData.depth p) (PyData.depthAll ps) ≤ k
        omega
      · show (PyData.eqv p p && PyData.eqvAll ps ps) = true
        rw [a4, b4]
        rfl
  induction k with
  | zero =>
    intro d h
    cases d with
    | non => exact ⟨_, rfl, rfl, Nat.zero_le _, rfl⟩
    | bl b => exact ⟨_, rfl, rfl, Nat.zero_le _, by cases b <;> rfl⟩
    | int i => exact ⟨_, rfl, rfl, Nat.zero_le _, by simp [PyData.eqv]⟩
    | str x => exact ⟨_, rfl, h, Nat.zero_le _, by simp [PyData.eqv]⟩
    | _ => exact Bool.noConfusion h
  | succ k ih =>
    intro d h
    cases d with
    | non => exact ⟨_, rfl, rfl, Nat.zero_le _, rfl⟩
    | bl b => exact ⟨_, rfl, rfl, Nat.zero_le _, by cases b <;> rfl⟩
    | int i => exact ⟨_, rfl, rfl, Nat.zero_le _, by simp [PyData.eqv]⟩
    | str x => exact ⟨_, rfl, h, Nat.zero_le _, by simp [PyData.eqv]⟩
    | tup xs =>
      have h : (decide (xs.length ≤ 1000) && xs.all (plainD k)) = true := h
      rw [Bool.and_eq_true] at h
      obtain ⟨ps, b1, b2, b3, b4⟩ := key k ih xs h.2
      refine ⟨.tuple ps, ?_, b2, Nat.succ_le_succ b3, b4⟩
      show (toPys xs).map PyData.tuple = _
      rw [b1]
      rfl
    | lst xs =>
      have h : (decide (xs.length ≤ 1000) && xs.all (plainD k)) = true := h
      rw [Bool.and_eq_true] at h
      obtain ⟨ps, b1, b2, b3, b4⟩ := key k ih xs h.2
      refine ⟨.list ps, ?_, b2, Nat.succ_le_succ b3, b4⟩
      show (toPys xs).map PyData.list = _
      rw [b1]
      rfl
    | _ => exact Bool.noConfusion h
theorem toPyH_of {h : Hm} {d : D} {p : PyData} (e : toPy d = some p) : toPyH h d = some p := by
  cases d <;> first | exact e | cases e
theorem eq_refl {k : Nat} {d : D} (hk : k ≤ 64) (h : plainD k d = true) (h1 : Hm) : eqD d d h1 = .ok true h1 := by
  obtain ⟨p, a1, a2, a3, a4⟩ := plain_py k d h
  unfold eqD
  rw [toPyH_of a1]
  have s1 : SeqAt.shaped p = true := by
    unfold SeqAt.shaped
    rw [a2, decide_eq_true (show p.depth ≤ 64 by omega)]
    rfl
  dsimp only
  rw [s1, a4]
  rfl
theorem plain_mono {k : Nat} : ∀ {d : D}, plainD k d = true → plainD (k + 1) d = true := by
  induction k with
  | zero => intro d h; cases d <;> first | exact h | exact Bool.noConfusion h
  | succ k ih =>
    intro d h
    cases d with
    | tup xs =>
      have h : (decide (xs.length ≤ 1000) && xs.all (plainD k)) = true := h
      rw [Bool.and_eq_true, List.all_eq_true] at h
      show (decide (xs.length ≤ 1000) && xs.all (plainD (k + 1))) = true
      rw [Bool.and_eq_true, List.all_eq_true]
      exact ⟨h.1, fun x hx => ih (h.2 x hx)⟩
    | lst xs =>
      have h : (decide (xs.length ≤ 1000) && xs.all (plainD k)) = true := h
      rw [Bool.and_eq_true, List.all_eq_true] at h
      show (decide (xs.length ≤ 1000) && xs.all (plainD (k + 1))) = true
      rw [Bool.and_eq_true, List.all_eq_true]
      exact ⟨h.1, fun x hx => ih (h.2 x hx)⟩
    | _ => first | exact h | exact Bool.noConfusion h
theorem small_len {n : Nat} (hl : n ≤ 1000000) : smallI (n : Int) = true := smallI_mk (by omega) (by omega)
theorem guard_eq {α : Type} {b : Bool} {r : Res α} (h : b = true) : Res.guard b r = r := by
  subst h
  rfl
theorem I_rng1 {Γ : Gam} {a : Ex} {σ : Sg} {h h1 : Hm} {n : Nat} (he : evE Γ a σ h = .ok (.int n) h1) (hl : n ≤ 1000000) : evI Γ (.rng1 a) σ h = .ok (rngD 0 n) h1 := by
  have e : evI Γ (.rng1 a) σ h = (evE Γ a σ h).bind fun x h1 => match x with
    | .int j => .guard (smallI j) (.ok (rngD 0 j.toNat) h1)
    | _ => .stuck := rfl
  rw [e, he, Res.bind_ok]
  dsimp only
  rw [guard_eq (small_len hl), Int.toNat_natCast]
theorem I_rng2 {Γ : Gam} {a b : Ex} {σ : Sg} {h h1 h2 : Hm} {m n : Nat} (he : evE Γ a σ h = .ok (.int m) h1) (hb : evE Γ b σ h1 = .ok (.int n) h2) (hm : m ≤ 1000000) (hl : n ≤ 1000000) : evI Γ (.rng2 a b) σ h = .ok (rngD m (n - m)) h2 := by
  have e : evI Γ (.rng2 a b) σ h = (evE Γ a σ h).bind fun x h1 => (evE Γ b σ h1).bind fun y h2 => match x, y with
    | .int i, .int j => .guard (smallI i && smallI j) (.ok (rngD i (j - i).toNat) h2)
    | _, _ => .stuck := rfl
  rw [e, he, Res.bind_ok, hb, Res.bind_ok]
  dsimp only
  rw [guard_eq (by rw [small_len hm, small_len hl]; rfl)]
  congr 2
  omega
/-- a turn of a comprehension -/
noncomputable def stepC (Γ : Gam) (own : List (Str × Nat)) (tg : Tg) (cond : Exs) (elt : Ex) (σ : Sg) (x : D) (h2 : Hm) : Res (Option D) := match asgD tg x (wipeD σ (own.map (·.2))) with
  | some σ' => (evTs Γ cond σ' h2).bind fun t h3 => match t with
    | true => (evE Γ elt σ' h3).bind fun y h4 => .ok (some y) h4
    | false => .ok none h3
  | none => .stuck
theorem ev_comp_eq {Γ : Gam} {own : List (Str × Nat)} {tg : Tg} {it : It} {cond : Exs} {elt : Ex} {σ : Sg} {h : Hm} : evE Γ (.comp false own tg it cond elt) σ h = (evI Γ it σ h).bind fun src h1 =>
    (compLoop (stepC Γ own tg cond elt σ) h1.length src (h1 ++ [MO.lst []])).bind fun _ h2 => match listOf? h2 h1.length with
      | some ys => .ok (.lst ys) (endC h1 h2 ys)
      | none => .stuck := by
  unfold evE
  rfl
theorem stepC_some {Γ : Gam} {own : List (Str × Nat)} {tg : Tg} {cond : Exs} {elt : Ex} {σ σ' : Sg} {x y : D} {h h1 h2 : Hm} (ha : asgD tg x (wipeD σ (own.map (·.2))) = some σ') (ht : evTs Γ cond σ' h = .ok true h1) (he : evE Γ elt σ' h1 = .ok y h2) : stepC Γ own tg cond elt σ x h = .ok (some y) h2 := by
  unfold stepC
  rw [ha]
  dsimp only
  rw [ht, Res.bind_ok]
  dsimp only
  rw [he]
  rfl
theorem stepC_none {Γ : Gam} {own : List (Str × Nat)} {tg : Tg} {cond : Exs} {elt : Ex} {σ σ' : Sg} {x : D} {h h1 : Hm} (ha : asgD tg x (wipeD σ (own.map (·.2))) = some σ') (ht : evTs Γ cond σ' h = .ok false h1) : stepC Γ own tg cond elt σ x h = .ok none h1 := by
  unfold stepC
  rw [ha]
  dsimp only
  rw [ht]
  rfl
theorem loop_cons {f : D → Hm → Res (Option D)} {n : Nat} {x y : D} {xs acc : List D} {h h1 : Hm} (hf : f x h = .ok (some y) h1) (hl : listOf? h1 n = some acc) (hz : acc.length ≤ 1000) : compLoop f n (x :: xs) h = compLoop f n xs (h1.set n (.lst (acc ++ [y]))) := by
  show (f x h).bind _ = _
  rw [hf, Res.bind_ok]
  dsimp only
  rw [hl]
  dsimp only
  exact guard_eq (decide_eq_true (Nat.lt_of_le_of_lt hz (by decide)))
theorem loop_skip {f : D → Hm → Res (Option D)} {n : Nat} {x : D} {xs : List D} {h h1 : Hm} (hf : f x h = .ok none h1) : compLoop f n (x :: xs) h = compLoop f n xs h1 := by
  show (f x h).bind _ = _
  rw [hf]
  rfl

/-! Mini 18: a module's defs, one by one; the end. -/
/-- a def as it stands behind the top -/
def DefAt (K : PySem.W.Frag) (x : Str) (st : Stmt) : Prop := ∃ (f : Addr) (fd : FuncData), PySem.W.nsIn K mainGlobals x = some (some (.ref f)) ∧ Fun K x x st f fd
theorem def_at {K : PySem.W.Frag} {x : Str} {st : Stmt} {f : Addr} {oc : Value} {od an : Option Addr} {osl : Array (Option Value)} {kV doc pm cdv ct : Value} (a : PySem.W.nsIn K mainGlobals x = some (some (.ref f)))
    (l : K.lookup f = some ⟨oc, od, .func (PySem.W.fnOf x x (defArgs st) (defBody st) (defScope st) .none kV doc pm an cdv ct), osl⟩) (c : PySem.W.codeIn K cdv x = true) (k : PySem.W.keepIn K (.ref f) = true) : DefAt K x st := ⟨_, _, a, fun_mk l c k⟩
/-- what a body may call, by a list -/
def gamL (l : List (Nat × (List D → Hm → Res D))) (gl : List (Nat × D)) : Gam := ⟨fun i => l.lookup i, fun g => gl.lookup g⟩
section
variable {P : Program} {w : World} {K : PySem.W.Frag} {mg : Str → Option Value} {base h0 : Heap} {k : Nat} {c : Ctx}
def Fns (P : Program) (w : World) (K : PySem.W.Frag) (mg : Str → Option Value) (base : Heap) (k : Nat) (c : Ctx) : List (Nat × (List D → Hm → Res D)) → Prop
  | [] => True
  | p :: r => (∃ x, c.fnm[p.1]? = some x ∧ FnAt P w K mg base k x p.2) ∧ Fns P w K mg base k c r
def Kws (P : Program) (w : World) (K : PySem.W.Frag) (mg : Str → Option Value) (base : Heap) (k : Nat) (c : Ctx) (Γ : Gam) : List (Nat × Nat × List Str × List Nat) → Prop
  | [] => True
  | e :: r => (∀ den, Γ.fn e.1 = some den → ∃ x, c.fnm[e.1]? = some x ∧ FnKAt P w K mg base k x den e.2.1 e.2.2.1 e.2.2.2) ∧ Kws P w K mg base k c Γ r
def Gls (K : PySem.W.Frag) (mg : Str → Option Value) (c : Ctx) : List (Nat × D) → Prop
  | [] => True
  | p :: r => (∃ x u v, c.glm[p.1]? = some x ∧ mg x = some u ∧ RelV v u ∧ ∀ H ρ M, RD K H ρ M p.2 v) ∧ Gls K mg c r
theorem Fns.at : ∀ {l : List (Nat × (List D → Hm → Res D))}, Fns P w K mg base k c l → ∀ i den, l.lookup i = some den → ∃ x, c.fnm[i]? = some x ∧ FnAt P w K mg base k x den
  | [], _, _, _, e => by cases e
  | p :: r, h, i, den, e => by
    obtain ⟨j, d⟩ := p
    rw [List.lookup_cons] at e
    split at e
    · rename_i c
      have c : i = j := by simpa using c
      subst c
      cases e
      exact h.1
    · exact Fns.at h.2 i den e
theorem Gls.at : ∀ {l : List (Nat × D)}, Gls K mg c l → ∀ g d, l.lookup g = some d → ∃ x u v, c.glm[g]? = some x ∧ mg x = some u ∧ RelV v u ∧ ∀ H ρ M, RD K H ρ M d v
  | [], _, _, _, e => by cases e
  | p :: r, h, i, den, e => by
    obtain ⟨j, d⟩ := p
    rw [List.lookup_cons] at e
    split at e
    · rename_i c
      have c : i = j := by simpa using c
      subst c
      cases e
      exact h.1
    · exact Gls.at h.2 i den e
theorem Kws.at {Γ : Gam} : ∀ {l : List (Nat × Nat × List Str × List Nat)}, Kws P w K mg base k c Γ l → ∀ i n ks perm den, (i, n, ks, perm) ∈ l → Γ.fn i = some den → ∃ x, c.fnm[i]? = some x ∧ FnKAt P w K mg base k x den n ks perm
  | [], _, _, _, _, _, _, m, _ => absurd m (by simp)
  | p :: r, h, i, n, ks, perm, den, m, e => by
    rcases List.mem_cons.mp m with q | q
    · subst q
      exact h.1 den e
    · exact Kws.at h.2 i n ks perm den q e
theorem env_mk {l : List (Nat × (List D → Hm → Res D))} {gl : List (Nat × D)} (bi : ∀ x ∈ bNames, mg x = none) (hf : Fns P w K mg base k c l) (hk : Kws P w K mg base k c (gamL l gl) c.kw) (hg : Gls K mg c gl) : EnvOk P w K mg base k c (gamL l gl) :=
  ⟨bi, fun i den e => hf.at i den e, fun i n ks perm den m e => hk.at i n ks perm den m e, fun g d e => hg.at g d e⟩
variable {x : Str} {st : Stmt} {ps : List Str} {Γ : Gam} {body : Blk} {den : List D → Hm → Res D}
theorem fn_step (A : DefAt K x st) (X : K.In h0) (G : h0.Ns mainGlobals mg) (S : FnScope c.N ps (defScope st)) (hc : c.names = (defScope st).names) (ho : c.own = none ∧ c.rp = false) (E : EnvOk P w K mg base k c Γ) (chk : chkB body c (defBody st) = true)
    (hbind : ∀ (kV doc pm : Value) (an : Option Addr) (cdv ct : Value) (us : List Value), us.length = ps.length → bindArgs (PySem.W.fnOf x x (defArgs st) (defBody st) (defScope st) .none kV doc pm an cdv ct) ⟨us, []⟩ = pure (ps.zip us))
    (hn : ∀ ds h r h', den ds h = .ok r h' → ds.length = ps.length) (hb : BodyOk Γ c.N body den) : FnAt P w K mg base (k + 1) x den := by
  obtain ⟨f, fd, a, F⟩ := A
  exact fnAt_mk F S hc ho E chk (PySem.W.mg_of X G a) (F.binds hbind) hn hb a
theorem fnk_step {n : Nat} {ks : List Str} {perm : List Nat} (A : DefAt K x st) (X : K.In h0) (G : h0.Ns mainGlobals mg) (S : FnScope c.N ps (defScope st)) (hc : c.names = (defScope st).names) (ho : c.own = none ∧ c.rp = false) (E : EnvOk P w K mg base k c Γ) (chk : chkB body c (defBody st) = true)
    (hbind : ∀ (kV doc pm : Value) (an : Option Addr) (cdv ct : Value) (us ws : List Value), us.length = n → ws.length = ks.length → bindArgs (PySem.W.fnOf x x (defArgs st) (defBody st) (defScope st) .none kV doc pm an cdv ct) ⟨us, ks.zip ws⟩ = pure (ps.zip (permV perm Value.none us ws)))
    (hn : ∀ ds h r h', den ds h = .ok r h' → ds.length = ps.length) (hb : BodyOk Γ c.N body den) : FnKAt P w K mg base (k + 1) x den n ks perm := by
  obtain ⟨f, fd, a, F⟩ := A
  refine ⟨f, fd, ps, def_ok F S hc ho E chk hn hb, PySem.W.mg_of X G a, F.kp, ?_, hn⟩
  obtain ⟨oc, od, kV, doc, pm, an, cdv, ct, osl, rfl, lk, hcd⟩ := F.ex
  exact fun s us ws _ h1 h2 => .of_eq (hbind kV doc pm an cdv ct us ws h1 h2)
/-- a pair of ints of the module -/
theorem gl_pair {a : Addr} {i j : Int} {t u : Tok} {n : Nat} {osl : Array (Option Value)} {g : Nat} (hx : c.glm[g]? = some x) (X : K.In h0) (G : h0.Ns mainGlobals mg) (ha : PySem.W.nsIn K mainGlobals x = some (some (.ref a))) (l : K.lookup a = some ⟨.type "tuple", none, .seq #[.int i t, .int j u] n, osl⟩) :
    ∃ x u v, c.glm[g]? = some x ∧ mg x = some u ∧ RelV v u ∧ ∀ H ρ M, RD K H ρ M (.tup [.int i, .int j]) v :=
  ⟨x, .ref a, .ref a, hx, PySem.W.mg_of X G ha, rfl, fun H ρ M => .tup (vs := [.int i, .int j]) (.inr ⟨_, _, n, l, rfl, rfl, rfl, by rw [sz]; exact (show 2 ≤ 16777216 by decide), .cons ⟨t, rfl⟩ (.cons ⟨u, rfl⟩ .nil)⟩) (.cons (.int i) (.cons (.int j) .nil))⟩
/-- the law itself -/
theorem law_step {fa : Addr} {den : List D → Hm → Res D} (A : DefAt K "law" st) (X : K.In h0) (G : h0.Ns mainGlobals mg) (hfa : mg "law" = some (.ref fa)) (S : FnScope c.N ["script"] (defScope st)) (hc : c.names = (defScope st).names) (ho : c.own = none ∧ c.rp = false)
    (E : ∀ base : Heap, EnvOk P w K mg base k c Γ) (chk : chkB body c (defBody st) = true)
    (hbind : ∀ (kV doc pm : Value) (an : Option Addr) (cdv ct : Value) (u : Value), bindArgs (PySem.W.fnOf "law" "law" (defArgs st) (defBody st) (defScope st) .none kV doc pm an cdv ct) ⟨[u], []⟩ = pure [(("script" : Str), u)])
    (hn : ∀ ds h r h', den ds h = .ok r h' → ds.length = 1) (hb : BodyOk Γ c.N body den) :
    ∃ fd : FuncData, (∀ (s : Shared) (u : Value), BindsTo s fd ⟨[u], []⟩ [("script", u)]) ∧ ∀ base : Heap, K.In base → base.Ns mainGlobals mg → FnOk P w K mg base CX0 (k + 1) fa fd ["script"] (spD K 1 den) := by
  obtain ⟨f, fd, a, F⟩ := A
  have e := hfa.symm.trans (PySem.W.mg_of X G a)
  cases e
  refine ⟨fd, fun s u => ?_, fun base _ _ => def_ok F S hc ho (E base) chk hn hb⟩
  obtain ⟨oc, od, kV, doc, pm, an, cdv, ct, osl, rfl, lk, hcd⟩ := F.ex
  exact .of_eq (hbind kV doc pm an cdv ct u)
end
theorem law_walk {l : PySem.W.OpenLaw} {q : Program} {loose : List Str} {XP : (Str → Option Value) → Heap → Prop} {YP : World → Heap → Prop} {d : DefRec} {K : Params → PySem.W.Frag} {den : List D → Hm → Res D} {k : Nat} (hn : l.most = some 63) (hdf : d.params.defaults = []) (hr : Room k callerA)
    (hY : ∀ (w : World) (h : Heap), YP w h → (K w.params).In h) (hden : ∀ zs : List Int, zs.length ≤ 63 → ∃ h', den [.lst (zs.map .int)] [] = .ok (.bl true) h')
    (F : ∀ (w : World) (mg : Str → Option Value) (fa : Addr) (h : Heap), (K w.params).In h → h.Ns mainGlobals mg → mg d.name = some (.ref fa) →
      ∃ fd : FuncData, (∀ (s : Shared) (u : Value), BindsTo s fd ⟨[u], []⟩ [("script", u)]) ∧ ∀ base : Heap, (K w.params).In base → base.Ns mainGlobals mg → FnOk l.prog w (K w.params) mg base CX0 k fa fd ["script"] (spD (K w.params) 1 den)) :
    PySem.W.WalkO q loose XP YP l.row.toRowW d [] (fun f vs => PySem.call f vs) :=
  L2.walk_of (n := 63) (k := k) (x := "script") (CX := fun _ => CX0) (sp := fun w => spD (K w.params) 1 den) hn (by decide) hdf hr hY F (fun _ _ a ns hl _ hS => law_sp hS (hden ns hl)) fun _ _ _ _ _ z => z
theorem all_cons {p : Str → Prop} {x : Str} {l : List Str} (h : p x) (hl : ∀ y ∈ l, p y) : ∀ y ∈ x :: l, p y := fun y hy => by
  rcases List.mem_cons.mp hy with e | e
  · rw [e]; exact h
  · exact hl y e
theorem bi_of {K : PySem.W.Frag} (h0 : PySem.W.nsIn K mainGlobals "len" = some none) (h1 : PySem.W.nsIn K mainGlobals "abs" = some none) (h2 : PySem.W.nsIn K mainGlobals "int" = some none) (h3 : PySem.W.nsIn K mainGlobals "tuple" = some none) (h4 : PySem.W.nsIn K mainGlobals "list" = some none) (h5 : PySem.W.nsIn K mainGlobals "all" = some none) (h6 : PySem.W.nsIn K mainGlobals "any" = some none) (h7 : PySem.W.nsIn K mainGlobals "sum" = some none) (h8 : PySem.W.nsIn K mainGlobals "max" = some none) (h9 : PySem.W.nsIn K mainGlobals "min" = some none) (h10 : PySem.W.nsIn K mainGlobals "str" = some none) (h11 : PySem.W.nsIn K mainGlobals "bool" = some none) (h12 : PySem.W.nsIn K mainGlobals "isinstance" = some none) (h13 : PySem.W.nsIn K mainGlobals "range" = some none) (h14 : PySem.W.nsIn K mainGlobals "sorted" = some none) (h15 : PySem.W.nsIn K mainGlobals "reversed" = some none) (h16 : PySem.W.nsIn K mainGlobals "enumerate" = some none) (h17 : PySem.W.nsIn K mainGlobals "zip" = some none) (h18 : PySem.W.nsIn K mainGlobals "set" = some none) (h19 : PySem.W.nsIn K mainGlobals "repr" = some none) : ∀ x ∈ bNames, PySem.W.nsIn K mainGlobals x = some none := (all_cons h0 (all_cons h1 (all_cons h2 (all_cons h3 (all_cons h4 (all_cons h5 (all_cons h6 (all_cons h7 (all_cons h8 (all_cons h9 (all_cons h10 (all_cons h11 (all_cons h12 (all_cons h13 (all_cons h14 (all_cons h15 (all_cons h16 (all_cons h17 (all_cons h18 (all_cons h19 (fun x hx => absurd hx (by simp))))))))))))))))))))))

/-! Mini 19: reading forward. -/

def callG (Γ : Gam) (f : Nat) (ds : List D) (h : Hm) : Res D := match Γ.fn f with
  | some den => den ds h
  | none => .stuck
def globG (Γ : Gam) (g : Nat) (h : Hm) : Res D := match Γ.gl g with
  | some d => .ok d h
  | none => .stuck
def negR : D → Hm → Res D := fun x h => match x with
  | .int i => .ok (.int (-i)) h
  | _ => .stuck
def notR : D → Hm → Res D := fun x h => match x with
  | .bl c => .ok (.bl (!c)) h
  | _ => .stuck
def chR (t : Bool) (k : Hm → Res Bool) (h : Hm) : Res Bool := match t with
  | true => k h
  | false => .ok false h
def coR (t : Bool) (k : Hm → Res Bool) (h : Hm) : Res Bool := match t with
  | true => .ok true h
  | false => k h
def andR (x : D) (k : Hm → Res D) (h : Hm) : Res D := match x with
  | .bl true => k h
  | .bl false => .ok (.bl false) h
  | _ => .stuck
def orR (x : D) (k : Hm → Res D) (h : Hm) : Res D := match x with
  | .bl true => .ok (.bl true) h
  | .bl false => k h
  | _ => .stuck
def ifR {α : Type} (t : Bool) (a b : Hm → Res α) (h : Hm) : Res α := match t with
  | true => a h
  | false => b h
def optR : D → Hm → Res (Option Int) := fun x h => match x with
  | .int i => .ok (some i) h
  | _ => .stuck
def rng1R : D → Hm → Res (List D) := fun x h => match x with
  | .int j => .guard (smallI j) (.ok (rngD 0 j.toNat) h)
  | _ => .stuck
def rng2R (x y : D) (h : Hm) : Res (List D) := match x, y with
  | .int i, .int j => .guard (smallI i && smallI j) (.ok (rngD i (j - i).toNat) h)
  | _, _ => .stuck
def enmTR : D → Hm → Res (List D) := fun x h => match x with
  | .tup xs => .ok (enumD 0 xs) h
  | _ => .stuck
def zpR (x y : D) (h : Hm) : Res (List D) := match x, y with
  | .lst xs, .lst ys => .ok (zipD xs ys) h
  | .tup xs, .tup ys => .ok (zipD xs ys) h
  | _, _ => .stuck
noncomputable def compR (Γ : Gam) (mu : Bool) (own : List (Str × Nat)) (tg : Tg) (cond : Exs) (elt : Ex) (σ : Sg) (src : List D) (h1 : Hm) : Res D :=
  (compLoop (stepC Γ own tg cond elt σ) h1.length src (h1 ++ [.lst []])).bind fun _ h2 => match listOf? h2 h1.length with
    | some ys => match mu with
      | true => .ok (.ref h1.length) h2
      | false => .ok (.lst ys) (endC h1 h2 ys)
    | none => .stuck
theorem bind_assoc {α β γ : Type} (r : Res α) (f : α → Hm → Res β) (g : β → Hm → Res γ) : (r.bind f).bind g = r.bind fun a h => (f a h).bind g := by cases r <;> rfl
theorem guard_bind {α β : Type} (b : Bool) (r : Res α) (f : α → Hm → Res β) : (Res.guard b r).bind f = Res.guard b (r.bind f) := by cases b <;> rfl
theorem guard_wp_iff {α : Type} (b : Bool) (r : Res α) (Q : α → Hm → Prop) : (Res.guard b r).wp Q = (b = true ∧ r.wp Q) := by
  cases b with
  | true => simp
  | false => simp
theorem bind_wp_iff {α β : Type} (r : Res α) (f : α → Hm → Res β) (Q : β → Hm → Prop) : (r.bind f).wp Q = r.wp fun a h => (f a h).wp Q := by cases r <;> rfl
theorem negR_int (i : Int) (h : Hm) : negR (.int i) h = .ok (.int (-i)) h := rfl
theorem notR_bl (c : Bool) (h : Hm) : notR (.bl c) h = .ok (.bl (!c)) h := rfl
theorem chR_t (k : Hm → Res Bool) (h : Hm) : chR true k h = k h := rfl
theorem chR_f (k : Hm → Res Bool) (h : Hm) : chR false k h = .ok false h := rfl
theorem coR_t (k : Hm → Res Bool) (h : Hm) : coR true k h = .ok true h := rfl
theorem coR_f (k : Hm → Res Bool) (h : Hm) : coR false k h = k h := rfl
theorem chR_ok (t u : Bool) (h : Hm) : chR t (fun h1 => .ok u h1) h = .ok (t && u) h := by cases t <;> rfl
theorem coR_ok (t u : Bool) (h : Hm) : coR t (fun h1 => .ok u h1) h = .ok (t || u) h := by cases t <;> rfl
theorem andR_t (k : Hm → Res D) (h : Hm) : andR (.bl true) k h = k h := rfl
theorem andR_f (k : Hm → Res D) (h : Hm) : andR (.bl false) k h = .ok (.bl false) h := rfl
theorem andR_ok (t u : Bool) (h : Hm) : andR (.bl t) (fun h1 => .ok (.bl u) h1) h = .ok (.bl (t && u)) h := by cases t <;> rfl
theorem orR_t (k : Hm → Res D) (h : Hm) : orR (.bl true) k h = .ok (.bl true) h := rfl
theorem orR_f (k : Hm → Res D) (h : Hm) : orR (.bl false) k h = k h := rfl
theorem orR_ok (t u : Bool) (h : Hm) : orR (.bl t) (fun h1 => .ok (.bl u) h1) h = .ok (.bl (t || u)) h := by cases t <;> rfl
theorem ifR_t {α : Type} (a b : Hm → Res α) (h : Hm) : ifR true a b h = a h := rfl
theorem ifR_f {α : Type} (a b : Hm → Res α) (h : Hm) : ifR false a b h = b h := rfl
theorem ifR_ok {α : Type} (t : Bool) (a b : α) (h : Hm) : ifR t (fun h1 => .ok a h1) (fun h1 => .ok b h1) h = .ok (if t then a else b) h := by cases t <;> rfl
theorem optR_int (i : Int) (h : Hm) : optR (.int i) h = .ok (some i) h := rfl
theorem rng1R_int (j : Int) (h : Hm) : rng1R (.int j) h = .guard (smallI j) (.ok (rngD 0 j.toNat) h) := (Eq.refl _).trans (Eq.refl _)
theorem rng2R_int (i j : Int) (h : Hm) : rng2R (.int i) (.int j) h = .guard (smallI i && smallI j) (.ok (rngD i (j - i).toNat) h) := (Eq.refl _).trans (Eq.refl _)
theorem enmTR_tup (xs : List D) (h : Hm) : enmTR (.tup xs) h = .ok (enumD 0 xs) h := rfl
theorem zpR_tup (xs ys : List D) (h : Hm) : zpR (.tup xs) (.tup ys) h = .ok (zipD xs ys) h := rfl
theorem zpR_lst (xs ys : List D) (h : Hm) : zpR (.lst xs) (.lst ys) h = .ok (zipD xs ys) h := rfl
theorem itSD_str (x : Str) (h : Hm) : itSD (.str x) h = .ok (signsD x) h := rfl
theorem revD_tup (xs : List D) (h : Hm) : revD (.tup xs) h = .ok (.tup xs.reverse) h := rfl
theorem revD_lst (xs : List D) (h : Hm) : revD (.lst xs) h = .ok (.lst xs.reverse) h := rfl
theorem cutD_tup (xs : List D) (lo hi : Option Int) (h : Hm) : cutD (.tup xs) lo hi h = .ok (.tup (cutL xs lo hi)) h := rfl
theorem cutD_lst (xs : List D) (lo hi : Option Int) (h : Hm) : cutD (.lst xs) lo hi h = .ok (.lst (cutL xs lo hi)) h := rfl
theorem cutD_str (x : Str) (lo hi : Option Int) (h : Hm) : cutD (.str x) lo hi h = .guard (decide (x.length ≤ LIM)) (.ok (.str (cutS x lo hi)) h) := (Eq.refl _).trans (Eq.refl _)
theorem rngsD_int (l : Bool) (i j : Int) (h : Hm) : rngsD l (.int i) (.int j) h = .guard (rgOkB i j) (.ok (if l then .lst (rngD i (j - i).toNat) else .tup (rngD i (j - i).toNat)) h) := (Eq.refl _).trans (Eq.refl _)
theorem isDictD_dict (ks : List Str) (ds : List D) : isDictD (.dict ks ds) = true := rfl
theorem dgetD_dict (ks : List Str) (ds : List D) (x : Str) (z : D) (h : Hm) : dgetD (.dict ks ds) (.str x) z h = .ok ((lookD ks ds x).getD z) h := rfl
theorem cm_in (a b : D) (h : Hm) : cmpD .isin a b h = inD a b h := by cases a <;> rfl
theorem cm_notin (a b : D) (h : Hm) : cmpD .notin a b h = (inD a b h).bind fun c h => .ok (!c) h := by cases a <;> rfl
theorem cm_ltS (x y : Str) (h : Hm) : cmpD .lt (.str x) (.str y) h = .ok (decide (x.cps.toList < y.cps.toList)) h := rfl
theorem cm_leS (x y : Str) (h : Hm) : cmpD .le (.str x) (.str y) h = .ok (!decide (y.cps.toList < x.cps.toList)) h := rfl
theorem in_dict (ks : List Str) (ds : List D) (x : Str) (h : Hm) : inD (.str x) (.dict ks ds) h = .ok (lookD ks ds x).isSome h := rfl
theorem in_tup (a : D) (ys : List D) (h : Hm) : inD a (.tup ys) h = .guard (flatD a && ys.all flatD) (.ok (ys.any fun y => eqFD y a) h) := rfl
theorem in_lst (a : D) (ys : List D) (h : Hm) : inD a (.lst ys) h = .guard (flatD a && ys.all flatD) (.ok (ys.any fun y => eqFD y a) h) := rfl
theorem e_v {Γ : Gam} {i : Nat} {σ : Sg} {h : Hm} : evE Γ (.v i) σ h = match σ[i]? with | some (some d) => .ok d h | _ => .stuck := (Eq.refl _).trans (Eq.refl _)
theorem e_non {Γ : Gam}  {σ : Sg} {h : Hm} : evE Γ .non σ h = .ok .non h := (Eq.refl _).trans (Eq.refl _)
theorem e_bl {Γ : Gam} {b : Bool} {σ : Sg} {h : Hm} : evE Γ (.bl b) σ h = .ok (.bl b) h := (Eq.refl _).trans (Eq.refl _)
theorem e_int {Γ : Gam} {b : Int} {σ : Sg} {h : Hm} : evE Γ (.int b) σ h = .ok (.int b) h := (Eq.refl _).trans (Eq.refl _)
theorem e_str {Γ : Gam} {b : Str} {σ : Sg} {h : Hm} : evE Γ (.str b) σ h = .ok (.str b) h := (Eq.refl _).trans (Eq.refl _)
theorem e_glob {Γ : Gam} {g : Nat} {σ : Sg} {h : Hm} : evE Γ (.glob g) σ h = globG Γ g h := (Eq.refl _).trans (Eq.refl _)
theorem e_op2 {Γ : Gam} {o : Op2} {a b : Ex} {σ : Sg} {h : Hm} : evE Γ (.op2 o a b) σ h = (evE Γ a σ h).bind fun x h1 => (evE Γ b σ h1).bind fun y h2 => opD o x y h2 := (Eq.refl _).trans (Eq.refl _)
theorem e_neg {Γ : Gam} {a : Ex} {σ : Sg} {h : Hm} : evE Γ (.neg a) σ h = (evE Γ a σ h).bind negR := (Eq.refl _).trans (Eq.refl _)
theorem e_cmp {Γ : Gam} {o : Cm} {a b : Ex} {σ : Sg} {h : Hm} : evE Γ (.cmp o a b) σ h = (evE Γ a σ h).bind fun x h1 => (evE Γ b σ h1).bind fun y h2 => (cmpD o x y h2).bind fun c h3 => .ok (.bl c) h3 := (Eq.refl _).trans (Eq.refl _)
theorem e_chain {Γ : Gam} {o1 o2 : Cm} {a b c : Ex} {σ : Sg} {h : Hm} : evE Γ (.chain o1 o2 a b c) σ h = (evE Γ a σ h).bind fun x h1 => (evE Γ b σ h1).bind fun y h2 => (cmpD o1 x y h2).bind fun t h3 => (chR t (fun h3 => (evE Γ c σ h3).bind fun z h4 => cmpD o2 y z h4) h3).bind fun u h5 => .ok (.bl u) h5 := by
  show (evE Γ a σ h).bind _ = _
  congr 1
  funext x h1
  congr 1
  funext y h2
  congr 1
  funext t h3
  cases t with
  | true =>
    show (evE Γ c σ h3).bind _ = ((evE Γ c σ h3).bind _).bind _
    cases evE Γ c σ h3 <;> rfl
  | false => rfl
theorem e_isN {Γ : Gam} {a : Ex} {σ : Sg} {h : Hm} : evE Γ (.isN a) σ h = (evE Γ a σ h).bind fun x h1 => .ok (.bl (isNonD x)) h1 := (Eq.refl _).trans (Eq.refl _)
theorem e_notN {Γ : Gam} {a : Ex} {σ : Sg} {h : Hm} : evE Γ (.notN a) σ h = (evE Γ a σ h).bind fun x h1 => .ok (.bl (!isNonD x)) h1 := (Eq.refl _).trans (Eq.refl _)
theorem e_band {Γ : Gam} {a b : Ex} {σ : Sg} {h : Hm} : evE Γ (.band a b) σ h = (evE Γ a σ h).bind fun x h1 => andR x (fun h1 => evE Γ b σ h1) h1 := (Eq.refl _).trans (Eq.refl _)
theorem e_bor {Γ : Gam} {a b : Ex} {σ : Sg} {h : Hm} : evE Γ (.bor a b) σ h = (evE Γ a σ h).bind fun x h1 => orR x (fun h1 => evE Γ b σ h1) h1 := (Eq.refl _).trans (Eq.refl _)
theorem e_bnot {Γ : Gam} {a : Ex} {σ : Sg} {h : Hm} : evE Γ (.bnot a) σ h = (evE Γ a σ h).bind notR := (Eq.refl _).trans (Eq.refl _)
theorem e_ifx {Γ : Gam} {c a b : Ex} {σ : Sg} {h : Hm} : evE Γ (.ifx c a b) σ h = (evT Γ c σ h).bind fun t h1 => ifR t (fun h1 => evE Γ a σ h1) (fun h1 => evE Γ b σ h1) h1 := by
  show (evT Γ c σ h).bind _ = _
  first | rfl | (congr 1 <;> first | done | (funext t h1; cases t <;> rfl))
theorem e_tup {Γ : Gam} {es : Exs} {σ : Sg} {h : Hm} : evE Γ (.tup es) σ h = (evEs Γ es σ h).bind fun ds h1 => .guard (decide (ds.length ≤ LIM)) (.ok (.tup ds) h1) := (Eq.refl _).trans (Eq.refl _)
theorem e_lst {Γ : Gam} {es : Exs} {σ : Sg} {h : Hm} : evE Γ (.lst es) σ h = (evEs Γ es σ h).bind fun ds h1 => .guard (decide (ds.length ≤ LIM)) (.ok (.lst ds) h1) := (Eq.refl _).trans (Eq.refl _)
theorem e_lstM {Γ : Gam} {es : Exs} {σ : Sg} {h : Hm} : evE Γ (.lstM es) σ h = (evEs Γ es σ h).bind fun ds h1 => .guard (decide (ds.length ≤ LIM)) (.ok (.ref h1.length) (h1 ++ [.lst ds])) := (Eq.refl _).trans (Eq.refl _)
theorem e_ix {Γ : Gam} {a i : Ex} {σ : Sg} {h : Hm} : evE Γ (.ix a i) σ h = (evE Γ a σ h).bind fun x h1 => (evE Γ i σ h1).bind fun y h2 => ixD x y h2 := (Eq.refl _).trans (Eq.refl _)
theorem e_slice {Γ : Gam} {a : Ex} {lo hi : Eo} {σ : Sg} {h : Hm} : evE Γ (.slice a lo hi) σ h = (evE Γ a σ h).bind fun x h1 => (evO Γ lo σ h1).bind fun l h2 => (evO Γ hi σ h2).bind fun u h3 => cutD x l u h3 := (Eq.refl _).trans (Eq.refl _)
theorem e_rev {Γ : Gam} {a : Ex} {σ : Sg} {h : Hm} : evE Γ (.rev a) σ h = (evE Γ a σ h).bind revD := (Eq.refl _).trans (Eq.refl _)
theorem e_call {Γ : Gam} {f : Nat} {es : Exs} {σ : Sg} {h : Hm} : evE Γ (.call f es) σ h = (evEs Γ es σ h).bind fun ds h1 => callG Γ f ds h1 := (Eq.refl _).trans (Eq.refl _)
theorem e_callk {Γ : Gam} {f : Nat} {es ks : Exs} {p : List Nat} {σ : Sg} {h : Hm} : evE Γ (.callk f es ks p) σ h = (evEs Γ es σ h).bind fun ds h1 => (evEs Γ ks σ h1).bind fun zs h2 => callG Γ f (permV p D.non ds zs) h2 := (Eq.refl _).trans (Eq.refl _)
theorem e_isi {Γ : Gam} {a : Ex} {t : Ty} {σ : Sg} {h : Hm} : evE Γ (.isi a t) σ h = (evE Γ a σ h).bind fun x h1 => .guard (openD h1 x) (.ok (.bl (tyD t x)) h1) := (Eq.refl _).trans (Eq.refl _)
theorem e_isiT {Γ : Gam} {a : Ex} {ts : List Ty} {σ : Sg} {h : Hm} : evE Γ (.isiT a ts) σ h = (evE Γ a σ h).bind fun x h1 => .guard (openD h1 x) (.ok (.bl (ts.any fun t => tyD t x)) h1) := (Eq.refl _).trans (Eq.refl _)
theorem e_bi {Γ : Gam} {b : Bi} {es : Exs} {σ : Sg} {h : Hm} : evE Γ (.bi b es) σ h = (evEs Γ es σ h).bind fun ds h1 => biD b ds h1 := (Eq.refl _).trans (Eq.refl _)
theorem e_meth {Γ : Gam} {m : Mt} {r : Ex} {es : Exs} {σ : Sg} {h : Hm} : evE Γ (.meth m r es) σ h = (evE Γ r σ h).bind fun x h1 => .guard (rcvD m x h1) ((evEs Γ es σ h1).bind fun ds h2 => mtD m x ds h2) := (Eq.refl _).trans (Eq.refl _)
theorem e_lenset {Γ : Gam} {a : Ex} {σ : Sg} {h : Hm} : evE Γ (.lenset a) σ h = (evE Γ a σ h).bind lensetD := (Eq.refl _).trans (Eq.refl _)
theorem e_rngs {Γ : Gam} {l : Bool} {a b : Ex} {σ : Sg} {h : Hm} : evE Γ (.rngs l a b) σ h = (evE Γ a σ h).bind fun x h1 => (evE Γ b σ h1).bind fun y h2 => rngsD l x y h2 := (Eq.refl _).trans (Eq.refl _)
theorem e_dct {Γ : Gam} {kvs : List (Str × Int)} {σ : Sg} {h : Hm} : evE Γ (.dct kvs) σ h = .ok (.dict (kvs.map (·.1)) (kvs.map fun p => .int p.2)) h := (Eq.refl _).trans (Eq.refl _)
theorem e_dget {Γ : Gam} {d k f : Ex} {σ : Sg} {h : Hm} : evE Γ (.dget d k f) σ h = (evE Γ d σ h).bind fun x h1 => .guard (isDictD x) ((evE Γ k σ h1).bind fun y h2 => (evE Γ f σ h2).bind fun z h3 => dgetD x y z h3) := (Eq.refl _).trans (Eq.refl _)
theorem e_dix {Γ : Gam} {d k : Ex} {σ : Sg} {h : Hm} : evE Γ (.dix d k) σ h = (evE Γ d σ h).bind fun x h1 => (evE Γ k σ h1).bind fun y h2 => dixD x y h2 := (Eq.refl _).trans (Eq.refl _)
theorem dixD_dict (ks : List Str) (ds : List D) (x : Str) (h : Hm) : dixD (.dict ks ds) (.str x) h = match lookD ks ds x with | some d => .ok d h | none => .stuck := (Eq.refl _).trans (Eq.refl _)
theorem e_comp {Γ : Gam} {mu : Bool} {own : List (Str × Nat)} {tg : Tg} {it : It} {cond : Exs} {elt : Ex} {σ : Sg} {h : Hm} : evE Γ (.comp mu own tg it cond elt) σ h = (evI Γ it σ h).bind fun src h1 => compR Γ mu own tg cond elt σ src h1 := by
  unfold evE
  rfl
theorem es_nil {Γ : Gam}  {σ : Sg} {h : Hm} : evEs Γ .nil σ h = .ok [] h := (Eq.refl _).trans (Eq.refl _)
theorem es_cons {Γ : Gam} {e : Ex} {es : Exs} {σ : Sg} {h : Hm} : evEs Γ (.cons e es) σ h = (evE Γ e σ h).bind fun x h1 => (evEs Γ es σ h1).bind fun xs h2 => .ok (x :: xs) h2 := (Eq.refl _).trans (Eq.refl _)
theorem t_band {Γ : Gam} {a b : Ex} {σ : Sg} {h : Hm} : evT Γ (.band a b) σ h = (evT Γ a σ h).bind fun t h1 => chR t (fun h1 => evT Γ b σ h1) h1 := by
  show (evT Γ a σ h).bind _ = _
  first | rfl | (congr 1 <;> first | done | (funext t h1; cases t <;> rfl))
theorem t_bor {Γ : Gam} {a b : Ex} {σ : Sg} {h : Hm} : evT Γ (.bor a b) σ h = (evT Γ a σ h).bind fun t h1 => coR t (fun h1 => evT Γ b σ h1) h1 := by
  show (evT Γ a σ h).bind _ = _
  first | rfl | (congr 1 <;> first | done | (funext t h1; cases t <;> rfl))
theorem t_bnot {Γ : Gam} {a : Ex} {σ : Sg} {h : Hm} : evT Γ (.bnot a) σ h = (evT Γ a σ h).bind fun t h1 => .ok (!t) h1 := (Eq.refl _).trans (Eq.refl _)
theorem t_cmp {Γ : Gam} {o : Cm} {a b : Ex} {σ : Sg} {h : Hm} : evT Γ (.cmp o a b) σ h = (evE Γ a σ h).bind fun x h1 => (evE Γ b σ h1).bind fun y h2 => cmpD o x y h2 := (Eq.refl _).trans (Eq.refl _)
theorem t_chain {Γ : Gam} {o1 o2 : Cm} {a b c : Ex} {σ : Sg} {h : Hm} : evT Γ (.chain o1 o2 a b c) σ h = (evE Γ a σ h).bind fun x h1 => (evE Γ b σ h1).bind fun y h2 => (cmpD o1 x y h2).bind fun t h3 => chR t (fun h3 => (evE Γ c σ h3).bind fun z h4 => cmpD o2 y z h4) h3 := by
  show (evE Γ a σ h).bind _ = _
  first | rfl | (congr 1 <;> first | done | (funext x h1; congr 1 <;> first | done | (funext y h2; congr 1 <;> first | done | (funext t h3; cases t <;> rfl))))
theorem t_isN {Γ : Gam} {a : Ex} {σ : Sg} {h : Hm} : evT Γ (.isN a) σ h = (evE Γ a σ h).bind fun x h1 => .ok (isNonD x) h1 := (Eq.refl _).trans (Eq.refl _)
theorem t_notN {Γ : Gam} {a : Ex} {σ : Sg} {h : Hm} : evT Γ (.notN a) σ h = (evE Γ a σ h).bind fun x h1 => .ok (!isNonD x) h1 := (Eq.refl _).trans (Eq.refl _)
theorem t_v {Γ : Gam} {i : Nat} {σ : Sg} {h : Hm} : evT Γ (.v i) σ h = match σ[i]? with | some (some d) => trD d h | _ => .stuck := (Eq.refl _).trans (Eq.refl _)
theorem t_bl {Γ : Gam} {b : Bool} {σ : Sg} {h : Hm} : evT Γ (.bl b) σ h = .ok b h := (Eq.refl _).trans (Eq.refl _)
theorem t_call {Γ : Gam} {f : Nat} {es : Exs} {σ : Sg} {h : Hm} : evT Γ (.call f es) σ h = (evEs Γ es σ h).bind fun ds h1 => (callG Γ f ds h1).bind trD := by
  show (evEs Γ es σ h).bind _ = _
  congr 1
  funext ds h1
  unfold callG
  cases Γ.fn f <;> rfl
theorem t_callk {Γ : Gam} {f : Nat} {es ks : Exs} {p : List Nat} {σ : Sg} {h : Hm} : evT Γ (.callk f es ks p) σ h = (evEs Γ es σ h).bind fun ds h1 => (evEs Γ ks σ h1).bind fun zs h2 => (callG Γ f (permV p D.non ds zs) h2).bind trD := by
  show (evEs Γ es σ h).bind _ = _
  congr 1
  funext ds h1
  congr 1
  funext zs h2
  unfold callG
  cases Γ.fn f <;> rfl
theorem t_isi {Γ : Gam} {a : Ex} {t : Ty} {σ : Sg} {h : Hm} : evT Γ (.isi a t) σ h = (evE Γ a σ h).bind fun x h1 => .guard (openD h1 x) (.ok (tyD t x) h1) := (Eq.refl _).trans (Eq.refl _)
theorem t_isiT {Γ : Gam} {a : Ex} {ts : List Ty} {σ : Sg} {h : Hm} : evT Γ (.isiT a ts) σ h = (evE Γ a σ h).bind fun x h1 => .guard (openD h1 x) (.ok (ts.any fun t => tyD t x) h1) := (Eq.refl _).trans (Eq.refl _)
theorem t_bi {Γ : Gam} {b : Bi} {es : Exs} {σ : Sg} {h : Hm} : evT Γ (.bi b es) σ h = (evEs Γ es σ h).bind fun ds h1 => (biD b ds h1).bind trD := (Eq.refl _).trans (Eq.refl _)
theorem ts_nil {Γ : Gam}  {σ : Sg} {h : Hm} : evTs Γ .nil σ h = .ok true h := (Eq.refl _).trans (Eq.refl _)
theorem ts_one {Γ : Gam} {e : Ex} {σ : Sg} {h : Hm} : evTs Γ (.cons e .nil) σ h = evT Γ e σ h := (Eq.refl _).trans (Eq.refl _)
theorem o_none {Γ : Gam}  {σ : Sg} {h : Hm} : evO Γ .none σ h = .ok none h := (Eq.refl _).trans (Eq.refl _)
theorem o_some {Γ : Gam} {e : Ex} {σ : Sg} {h : Hm} : evO Γ (.some e) σ h = (evE Γ e σ h).bind optR := (Eq.refl _).trans (Eq.refl _)
theorem i_rng1 {Γ : Gam} {a : Ex} {σ : Sg} {h : Hm} : evI Γ (.rng1 a) σ h = (evE Γ a σ h).bind rng1R := (Eq.refl _).trans (Eq.refl _)
theorem i_rng2 {Γ : Gam} {a b : Ex} {σ : Sg} {h : Hm} : evI Γ (.rng2 a b) σ h = (evE Γ a σ h).bind fun x h1 => (evE Γ b σ h1).bind fun y h2 => rng2R x y h2 := (Eq.refl _).trans (Eq.refl _)
theorem i_ex {Γ : Gam} {e : Ex} {σ : Sg} {h : Hm} : evI Γ (.ex e) σ h = (evE Γ e σ h).bind itD := (Eq.refl _).trans (Eq.refl _)
theorem i_rvs {Γ : Gam} {e : Ex} {σ : Sg} {h : Hm} : evI Γ (.rvs e) σ h = (evE Γ e σ h).bind fun x h1 => (itD x h1).bind fun xs h2 => .ok xs.reverse h2 := (Eq.refl _).trans (Eq.refl _)
theorem i_enmT {Γ : Gam} {e : Ex} {σ : Sg} {h : Hm} : evI Γ (.enmT e) σ h = (evE Γ e σ h).bind enmTR := (Eq.refl _).trans (Eq.refl _)
theorem i_sgn {Γ : Gam} {e : Ex} {σ : Sg} {h : Hm} : evI Γ (.sgn e) σ h = (evE Γ e σ h).bind itSD := (Eq.refl _).trans (Eq.refl _)
theorem i_zp {Γ : Gam} {a b : Ex} {σ : Sg} {h : Hm} : evI Γ (.zp a b) σ h = (evE Γ a σ h).bind fun x h1 => (evE Γ b σ h1).bind fun y h2 => zpR x y h2 := (Eq.refl _).trans (Eq.refl _)
theorem e_fnv {Γ : Gam} {j : Nat} {x : Str} {σ : Sg} {h : Hm} : evE Γ (.fnv j x) σ h = match Γ.fn j with | some _ => .ok (.fn j x) h | none => .stuck := (Eq.refl _).trans (Eq.refl _)
theorem e_callv {Γ : Gam} {i : Nat} {ops : List (Nat × Str)} {es : Exs} {σ : Sg} {h : Hm} {j : Nat} {x : Str} (e : σ[i]? = some (some (.fn j x))) : evE Γ (.callv i ops es) σ h = .guard (decide ((j, x) ∈ ops)) ((evEs Γ es σ h).bind fun ds h1 => callG Γ j ds h1) := by
  show (match σ[i]? with | some (some (.fn j x)) => Res.guard (decide ((j, x) ∈ ops)) ((evEs Γ es σ h).bind fun ds h1 => match Γ.fn j with | some den => den ds h1 | none => .stuck) | _ => .stuck) = _
  rw [e]
  rfl
/-! ### statements -/
def Po.seq (Γ : Gam) (b : Blk) (P : Po) : Po := { P with nx := fun σ h => wpB Γ b σ h P }
def KSet (Γ : Gam) (i : Nat) (b : Blk) (σ : Sg) (P : Po) : D → Hm → Prop := fun d h => wpB Γ b (σ.set i (some d)) h P
def KEx (Γ : Gam) (b : Blk) (σ : Sg) (P : Po) : D → Hm → Prop := fun _ h => wpB Γ b σ h P
def KIf (Γ : Gam) (x y b : Blk) (σ : Sg) (P : Po) : Bool → Hm → Prop := fun t h => match t with
  | true => wpB Γ x σ h (P.seq Γ b)
  | false => wpB Γ y σ h (P.seq Γ b)
def KPar (Γ : Gam) (i j : Nat) (e2 : Ex) (b : Blk) (σ : Sg) (P : Po) : D → Hm → Prop := fun x h => (evE Γ e2 σ h).wp fun y h2 => wpB Γ b ((σ.set i (some x)).set j (some y)) h2 P
def KPar2 (Γ : Gam) (i j : Nat) (x : D) (b : Blk) (σ : Sg) (P : Po) : D → Hm → Prop := fun y h2 => wpB Γ b ((σ.set i (some x)).set j (some y)) h2 P
def KTri (Γ : Gam) (i j l : Nat) (e2 e3 : Ex) (b : Blk) (σ : Sg) (P : Po) : D → Hm → Prop := fun x h => (evE Γ e2 σ h).wp fun y h2 => (evE Γ e3 σ h2).wp fun z h3 => wpB Γ b (((σ.set i (some x)).set j (some y)).set l (some z)) h3 P
def KTri2 (Γ : Gam) (i j l : Nat) (x : D) (e3 : Ex) (b : Blk) (σ : Sg) (P : Po) : D → Hm → Prop := fun y h2 => (evE Γ e3 σ h2).wp fun z h3 => wpB Γ b (((σ.set i (some x)).set j (some y)).set l (some z)) h3 P
def KTri3 (Γ : Gam) (i j l : Nat) (x y : D) (b : Blk) (σ : Sg) (P : Po) : D → Hm → Prop := fun z h3 => wpB Γ b (((σ.set i (some x)).set j (some y)).set l (some z)) h3 P
def KAsg (Γ : Gam) (is : List Nat) (b : Blk) (σ : Sg) (P : Po) : D → Hm → Prop := fun d h => match asgD (.tup is) d σ with
  | some σ' => wpB Γ b σ' h P
  | none => False
def KRet (P : Po) : D → Hm → Prop := fun d h => P.rt d h
def wpLoop (Γ : Gam) (tg : Tg) (x : Blk) (xs : List D) (σ : Sg) (h : Hm) (P : Po) : Prop := wpFor (fun x1 σ1 h2 P1 => match asgD tg x1 σ1 with
    | some σ2 => wpB Γ x σ2 h2 P1
    | none => False) xs σ h P
def KFor (Γ : Gam) (tg : Tg) (x b : Blk) (σ : Sg) (P : Po) : List D → Hm → Prop := fun xs h => wpLoop Γ tg x xs σ h (P.seq Γ b)
def KIxV (Γ : Gam) (o i : Ex) (b : Blk) (σ : Sg) (P : Po) : D → Hm → Prop := fun d h1 => (evE Γ o σ h1).wp fun x h2 => (evE Γ i σ h2).wp fun y h3 => match x, y with
    | .ref n, .int k => match listOf? h3 n with
      | some xs => match ixN xs.length k with
        | some j => wpB Γ b σ (h3.set n (.lst (xs.set j d))) P
        | none => False
      | none => False
    | _, _ => False
section
variable {Γ : Gam} {e e2 e3 c o : Ex} {b x y : Blk} {σ : Sg} {h : Hm} {P : Po} {d d2 d3 : D} {i j l : Nat}
theorem b_nil : wpB Γ .nil σ h P = P.nx σ h := (Eq.refl _).trans (Eq.refl _)
theorem seq_nx : (P.seq Γ b).nx σ h = wpB Γ b σ h P := rfl
theorem seq_rt : (P.seq Γ b).rt = P.rt := rfl
theorem seq_bk : (P.seq Γ b).bk = P.bk := rfl
theorem seq_ct : (P.seq Γ b).ct = P.ct := rfl
theorem b_set : wpB Γ (.cons (.set i e) b) σ h P = (evE Γ e σ h).wp (KSet Γ i b σ P) := (Eq.refl _).trans (Eq.refl _)
theorem k_set : (Res.ok d h).wp (KSet Γ i b σ P) = wpB Γ b (σ.set i (some d)) h P := (Eq.refl _).trans (Eq.refl _)
theorem b_ex : wpB Γ (.cons (.ex e) b) σ h P = (evE Γ e σ h).wp (KEx Γ b σ P) := (Eq.refl _).trans (Eq.refl _)
theorem k_ex : (Res.ok d h).wp (KEx Γ b σ P) = wpB Γ b σ h P := (Eq.refl _).trans (Eq.refl _)
theorem b_ret : wpB Γ (.cons (.ret e) b) σ h P = (evE Γ e σ h).wp (KRet P) := (Eq.refl _).trans (Eq.refl _)
theorem k_ret : (Res.ok d h).wp (KRet P) = P.rt d h := (Eq.refl _).trans (Eq.refl _)
theorem b_ife : wpB Γ (.cons (.ife c x y) b) σ h P = (evT Γ c σ h).wp (KIf Γ x y b σ P) := by
  show (evT Γ c σ h).wp _ = (evT Γ c σ h).wp _
  first | rfl | (congr 1 <;> first | done | (funext t h1; cases t <;> rfl))
theorem k_ifT : (Res.ok true h).wp (KIf Γ x y b σ P) = wpB Γ x σ h (P.seq Γ b) := (Eq.refl _).trans (Eq.refl _)
theorem k_ifF : (Res.ok false h).wp (KIf Γ x y b σ P) = wpB Γ y σ h (P.seq Γ b) := (Eq.refl _).trans (Eq.refl _)
theorem b_par : wpB Γ (.cons (.par i j e e2) b) σ h P = (evE Γ e σ h).wp (KPar Γ i j e2 b σ P) := (Eq.refl _).trans (Eq.refl _)
theorem k_par : (Res.ok d h).wp (KPar Γ i j e2 b σ P) = (evE Γ e2 σ h).wp (KPar2 Γ i j d b σ P) := (Eq.refl _).trans (Eq.refl _)
theorem k_par2 : (Res.ok d2 h).wp (KPar2 Γ i j d b σ P) = wpB Γ b ((σ.set i (some d)).set j (some d2)) h P := (Eq.refl _).trans (Eq.refl _)
theorem b_tri : wpB Γ (.cons (.par3 i j l e e2 e3) b) σ h P = (evE Γ e σ h).wp (KTri Γ i j l e2 e3 b σ P) := (Eq.refl _).trans (Eq.refl _)
theorem k_tri : (Res.ok d h).wp (KTri Γ i j l e2 e3 b σ P) = (evE Γ e2 σ h).wp (KTri2 Γ i j l d e3 b σ P) := (Eq.refl _).trans (Eq.refl _)
theorem k_tri2 : (Res.ok d2 h).wp (KTri2 Γ i j l d e3 b σ P) = (evE Γ e3 σ h).wp (KTri3 Γ i j l d d2 b σ P) := (Eq.refl _).trans (Eq.refl _)
theorem k_tri3 : (Res.ok d3 h).wp (KTri3 Γ i j l d d2 b σ P) = wpB Γ b (((σ.set i (some d)).set j (some d2)).set l (some d3)) h P := (Eq.refl _).trans (Eq.refl _)
theorem b_asg {is : List Nat} : wpB Γ (.cons (.asg is e) b) σ h P = (evE Γ e σ h).wp (KAsg Γ is b σ P) := by
  show (evE Γ e σ h).wp _ = (evE Γ e σ h).wp _
  congr 1
theorem k_asg {is : List Nat} : (Res.ok d h).wp (KAsg Γ is b σ P) = match asgD (.tup is) d σ with
  | some σ' => wpB Γ b σ' h P
  | none => False := rfl
theorem b_for {tg : Tg} {it : It} : wpB Γ (.cons (.for_ tg it x) b) σ h P = (evI Γ it σ h).wp (KFor Γ tg x b σ P) := (Eq.refl _).trans (Eq.refl _)
theorem b_setix : wpB Γ (.cons (.setix o e e2) b) σ h P = (evE Γ e2 σ h).wp (KIxV Γ o e b σ P) := (Eq.refl _).trans (Eq.refl _)
theorem b_pass : wpB Γ (.cons .pass b) σ h P = wpB Γ b σ h P := (Eq.refl _).trans (Eq.refl _)
theorem b_never : wpB Γ (.cons .never b) σ h P = False := (Eq.refl _).trans (Eq.refl _)
theorem b_brk : wpB Γ (.cons .brk b) σ h P = P.bk σ h := (Eq.refl _).trans (Eq.refl _)
theorem b_cont : wpB Γ (.cons .cont b) σ h P = P.ct σ h := (Eq.refl _).trans (Eq.refl _)
/-- for: by an invariant -/
theorem L_for {tg : Tg} {xs : List D} (I : Nat → Sg → Hm → Prop) (h0 : I 0 σ h)
    (st : ∀ i x1 σ h, xs[i]? = some x1 → I i σ h → ∃ σ2, asgD tg x1 σ = some σ2 ∧ wpB Γ x σ2 h { nx := I (i + 1), ct := I (i + 1), bk := fun σ' h' => wpB Γ b σ' h' P, rt := P.rt })
    (fin : ∀ σ h, I xs.length σ h → wpB Γ b σ h P) : (Res.ok xs h).wp (KFor Γ tg x b σ P) := by
  have key : ∀ n i σ h, i + n = xs.length → I i σ h → wpLoop Γ tg x (xs.drop i) σ h (P.seq Γ b) := by
    intro n
    induction n with
    | zero =>
      intro i σ h e z
      have e : i = xs.length := by omega
      subst e
      rw [List.drop_length]
      exact fin _ _ z
    | succ n ih =>
      intro i σ h e z
      have hl : i < xs.length := by omega
      rw [List.drop_eq_getElem_cons hl]
      obtain ⟨σ2, a1, a2⟩ := st i _ σ h (List.getElem?_eq_getElem hl) z
      unfold wpLoop wpFor
      rw [a1]
      refine wpB_mono Γ x _ _ _ _ ?_ a2
      exact ⟨fun σ h z => ih (i + 1) σ h (by omega) z, fun _ _ z => z, fun _ _ z => z, fun σ h z => ih (i + 1) σ h (by omega) z⟩
  have := key xs.length 0 σ h (by omega) h0
  rwa [List.drop_zero] at this
/-- while: by an invariant -/
theorem L_while (I : Nat → Sg → Hm → Prop) {m : Nat} (h0 : I m σ h)
    (st : ∀ m σ h, I m σ h → (evT Γ c σ h).wp fun t h1 => (t = true → wpB Γ x σ h1 { nx := fun σ' h' => ∃ m', m' < m ∧ I m' σ' h', ct := fun σ' h' => ∃ m', m' < m ∧ I m' σ' h', bk := fun σ' h' => wpB Γ b σ' h' P, rt := P.rt }) ∧ (t = false → wpB Γ b σ h1 P)) : wpB Γ (.cons (.while_ c x) b) σ h P :=
  while_inv (P := { P with nx := fun σ' h' => wpB Γ b σ' h' P }) I h0 fun m σ h i => Res.wp_mono (st m σ h i) fun t h1 z => by
    cases t with
    | true => exact z.1 rfl
    | false => exact z.2 rfl
end
/-- a call, by what is known of it -/
theorem wp_call {α : Type} {r : Res D} {k : D → Hm → Res α} {Q : α → Hm → Prop} {Post : D → Hm → Prop} (S : ∃ d h, r = .ok d h ∧ Post d h) (c : ∀ d h, Post d h → (k d h).wp Q) : (r.bind k).wp Q := by
  obtain ⟨d, h, e, p⟩ := S
  rw [e]
  exact c d h p
theorem wp_call0 {r : Res D} {Q : D → Hm → Prop} {Post : D → Hm → Prop} (S : ∃ d h, r = .ok d h ∧ Post d h) (c : ∀ d h, Post d h → Q d h) : r.wp Q := by
  obtain ⟨d, h, e, p⟩ := S
  rw [e]
  exact c d h p

/-! ### a def by what its body is shown to do -/
inductive Out where
  | nx (σ : Sg) (h : Hm) | rt (d : D) (h : Hm) | bk (σ : Sg) (h : Hm) | ct (σ : Sg) (h : Hm)
def Po.at (P : Po) : Out → Prop
  | .nx σ h => P.nx σ h
  | .rt d h => P.rt d h
  | .bk σ h => P.bk σ h
  | .ct σ h => P.ct σ h
def Ends1 (w : Po → Prop) : Prop := ∀ P, w P → ∃ o, P.at o ∧ ∀ P', P'.at o → w P'
theorem ends_nx {σ : Sg} {h : Hm} : Ends1 fun P => P.nx σ h := fun P w => ⟨.nx σ h, w, fun _ z => z⟩
theorem ends_wp {α : Type} {r : Res α} {k : α → Hm → Po → Prop} (e : ∀ a h, Ends1 (k a h)) : Ends1 fun P => r.wp fun a h => k a h P := fun P w => by
  cases r with
  | ok a h => exact e a h P w
  | stuck => exact False.elim w
theorem ends_for {b : D → Sg → Hm → Po → Prop} (e : ∀ x σ h, Ends1 (b x σ h)) : ∀ (xs : List D) (σ : Sg) (h : Hm), Ends1 (wpFor b xs σ h)
  | [], σ, h => ends_nx
  | x :: xs, σ, h => fun P w => by
    obtain ⟨o, p, q⟩ := e x σ h _ w
    cases o with
    | nx σ' h' =>
      obtain ⟨o2, p2, q2⟩ := ends_for e xs σ' h' P p
      exact ⟨o2, p2, fun P' z => q _ (q2 P' z)⟩
    | ct σ' h' =>
      obtain ⟨o2, p2, q2⟩ := ends_for e xs σ' h' P p
      exact ⟨o2, p2, fun P' z => q _ (q2 P' z)⟩
    | bk σ' h' => exact ⟨.nx σ' h', p, fun P' z => q _ z⟩
    | rt d h' => exact ⟨.rt d h', p, fun P' z => q _ z⟩
theorem ends_while {c : Sg → Hm → Res Bool} {b : Sg → Hm → Po → Prop} (e : ∀ σ h, Ends1 (b σ h)) : ∀ (n : Nat) (σ : Sg) (h : Hm), Ends1 (wpWhile c b n σ h)
  | 0, _, _ => fun P w => False.elim w
  | n + 1, σ, h => fun P w => by
    have w : (c σ h).wp _ := w
    cases k : c σ h with
    | stuck => rw [k] at w; exact False.elim w
    | ok t h1 =>
      rw [k] at w
      cases t with
      | false => exact ⟨.nx σ h1, w, fun P' z => by
          show (c σ h).wp _
          rw [k]
          exact z⟩
      | true =>
        obtain ⟨o, p, q⟩ := e σ h1 _ w
        have up : ∀ P', b σ h1 { P' with nx := fun σ' h' => wpWhile c b n σ' h' P', ct := fun σ' h' => wpWhile c b n σ' h' P', bk := P'.nx } → wpWhile c b (n + 1) σ h P' := fun P' z => by
          show (c σ h).wp _
          rw [k]
          exact z
        cases o with
        | nx σ' h' =>
          obtain ⟨o2, p2, q2⟩ := ends_while e n σ' h' P p
          exact ⟨o2, p2, fun P' z => up P' (q _ (q2 P' z))⟩
        | ct σ' h' =>
          obtain ⟨o2, p2, q2⟩ := ends_while e n σ' h' P p
          exact ⟨o2, p2, fun P' z => up P' (q _ (q2 P' z))⟩
        | bk σ' h' => exact ⟨.nx σ' h', p, fun P' z => up P' (q _ z)⟩
        | rt d h' => exact ⟨.rt d h', p, fun P' z => up P' (q _ z)⟩
mutual
theorem ends_S (Γ : Gam) : ∀ (s : Stm) (σ : Sg) (h : Hm), Ends1 (wpS Γ s σ h)
  | .set i e, σ, h => ends_wp fun _ _ => ends_nx
  | .asg is e, σ, h => ends_wp fun d h1 P w => by
    cases k : asgD (.tup is) d σ with
    | none => rw [k] at w; exact False.elim w
    | some σ' => rw [k] at w; exact ends_nx P w
  | .par i j a b, σ, h => ends_wp fun _ _ => ends_wp fun _ _ => ends_nx
  | .par3 i j l a b d, σ, h => ends_wp fun _ _ => ends_wp fun _ _ => ends_wp fun _ _ => ends_nx
  | .setix o i e, σ, h => ends_wp fun d h1 => ends_wp fun x h2 => ends_wp fun y h3 P w => by
    split at w
    · rename_i n k
      cases e1 : listOf? h3 n with
      | none => rw [e1] at w; exact False.elim w
      | some xs =>
        rw [e1] at w
        dsimp only at w ⊢
        cases e2 : ixN xs.length k with
        | none => rw [e2] at w; exact False.elim w
        | some j => rw [e2] at w; exact ends_nx P w
    · exact False.elim w
  | .ex e, σ, h => ends_wp fun _ _ => ends_nx
  | .ret e, σ, h => ends_wp fun d h1 P w => ⟨.rt d h1, w, fun _ z => z⟩
  | .ife c a b, σ, h => ends_wp fun t h1 P w => by
    cases t with
    | true => exact ends_B Γ a σ h1 P w
    | false => exact ends_B Γ b σ h1 P w
  | .for_ tg it b, σ, h => ends_wp fun xs h1 => ends_for (fun x σ h P w => by
    cases k : asgD tg x σ with
    | none => rw [k] at w; exact False.elim w
    | some σ' => rw [k] at w; exact ends_B Γ b σ' h P w) xs σ h1
  | .while_ c b, σ, h => fun P ⟨n, w⟩ => by
    obtain ⟨o, p, q⟩ := ends_while (fun σ h => ends_B Γ b σ h) n σ h P w
    exact ⟨o, p, fun P' z => ⟨n, q P' z⟩⟩
  | .brk, σ, h => fun P w => ⟨.bk σ h, w, fun _ z => z⟩
  | .cont, σ, h => fun P w => ⟨.ct σ h, w, fun _ z => z⟩
  | .pass, σ, h => ends_nx
  | .freeze i, σ, h => fun P w => by
    have w : (match σ[i]? with
      | some (some (.ref n)) => match listOf? h n with
        | some xs => P.nx (σ.set i (some (.lst xs))) (h.set n .gone)
        | none => False
      | _ => False) := w
    split at w
    · rename_i n e1
      split at w
      · rename_i xs e2
        refine ⟨.nx _ _, w, fun P' z => ?_⟩
        show (match σ[i]? with
          | some (some (.ref n)) => match listOf? h n with
            | some xs => P'.nx (σ.set i (some (.lst xs))) (h.set n .gone)
            | none => False
          | _ => False)
        rw [e1]
        dsimp only
        rw [e2]
        exact z
      · exact False.elim w
    · exact False.elim w
  | .never, σ, h => fun P w => False.elim w
theorem ends_B (Γ : Gam) : ∀ (b : Blk) (σ : Sg) (h : Hm), Ends1 (wpB Γ b σ h)
  | .nil, σ, h => ends_nx
  | .cons s b, σ, h => fun P w => by
    obtain ⟨o, p, q⟩ := ends_S Γ s σ h _ w
    cases o with
    | nx σ' h' =>
      obtain ⟨o2, p2, q2⟩ := ends_B Γ b σ' h' P p
      exact ⟨o2, p2, fun P' z => q _ (q2 P' z)⟩
    | ct σ' h' => exact ⟨.ct σ' h', p, fun P' z => q _ z⟩
    | bk σ' h' => exact ⟨.bk σ' h', p, fun P' z => q _ z⟩
    | rt d h' => exact ⟨.rt d h', p, fun P' z => q _ z⟩
end
/-- what is told of a call: the arguments, the heap, the answer, the heap behind it -/
abbrev Tell := List D → Hm → D → Hm → Prop
def PoT (T : Tell) (ds : List D) (h : Hm) : Po := { nx := fun _ h2 => ∃ r h', Fz h .non h2 r h' ∧ T ds h r h', rt := fun d h2 => ∃ r h', Fz h d h2 r h' ∧ T ds h r h' }
open Classical in
noncomputable def denT (Γ : Gam) (N : List Str) (np : Nat) (b : Blk) (T : Tell) : List D → Hm → Res D := fun ds h =>
  if x : ds.length = np ∧ ∃ p : D × Hm, wpB Γ b (startD N ds) h { nx := fun _ h2 => Fz h .non h2 p.1 p.2, rt := fun d h2 => Fz h d h2 p.1 p.2 } ∧ T ds h p.1 p.2 then .ok x.2.choose.1 x.2.choose.2 else .stuck
theorem denT_body {Γ : Gam} {N : List Str} {np : Nat} {b : Blk} {T : Tell} : BodyOk Γ N b (denT Γ N np b T) := fun ds h r h' e => by
  unfold denT at e
  split at e
  · rename_i x
    obtain ⟨a, _⟩ := x.2.choose_spec
    obtain ⟨e1, e2⟩ := ok_inj e
    rw [← e1, ← e2]
    exact a
  · cases e
theorem denT_len {Γ : Gam} {N : List Str} {np : Nat} {b : Blk} {T : Tell} (ds : List D) (h : Hm) (r : D) (h' : Hm) (e : denT Γ N np b T ds h = .ok r h') : ds.length = np := by
  unfold denT at e
  split at e
  · rename_i x
    exact x.1
  · cases e
theorem denT_ok {Γ : Gam} {N : List Str} {np : Nat} {b : Blk} {T : Tell} {ds : List D} {h : Hm} (hl : ds.length = np) (w : wpB Γ b (startD N ds) h (PoT T ds h)) : ∃ r h', denT Γ N np b T ds h = .ok r h' ∧ T ds h r h' := by
  obtain ⟨o, p, q⟩ := ends_B Γ b _ _ _ w
  have z : ∃ p : D × Hm, wpB Γ b (startD N ds) h { nx := fun _ h2 => Fz h .non h2 p.1 p.2, rt := fun d h2 => Fz h d h2 p.1 p.2 } ∧ T ds h p.1 p.2 := by
    cases o with
    | nx σ h2 =>
      obtain ⟨r, h', f, t⟩ := p
      exact ⟨(r, h'), q _ f, t⟩
    | rt d h2 =>
      obtain ⟨r, h', f, t⟩ := p
      exact ⟨(r, h'), q _ f, t⟩
    | bk σ h2 => exact False.elim p
    | ct σ h2 => exact False.elim p
  exact ⟨_, _, by unfold denT; rw [dif_pos ⟨hl, z⟩], z.choose_spec.2⟩
/-- reading forward, as far as it goes -/
local macro_rules | `(tactic| fail "mini fw") => `(tactic| simp only [startD, List.map, List.length, List.replicate, List.append, List.cons_append, List.nil_append, List.getElem?_cons_zero, List.getElem?_cons_succ, List.getElem?_nil, List.set_cons_zero, List.set_cons_succ, List.set_nil, Nat.sub_self, Nat.reduceSub, Nat.reduceAdd, Nat.reduceMul, Nat.reduceEqDiff, List.replicate_zero, List.replicate_succ, List.append_nil, Res.bind_ok, Res.bind_stuck, Res.guard_true, Res.guard_false, asgD, setAll, if_true, if_false, Bool.not_true, Bool.not_false, decide_true, decide_false, decide_eq_true_eq, Bool.false_eq_true, lim0, lim1, lim2, lim3, lim4, lim5, lim6, lim7, lim8, lim9, lim10, lim11, lim12, lim13, lim14, lim15, lim16, lim17, lim18, lim19, lim20, lim21, lim22, lim23, lim24, lim25, lim26, lim27, lim28, lim29, lim30, lim31, lim32, lim33, lim34, lim35, lim36, lim37, lim38, lim39, lim40, at0, at1, at2, at3, ty_int_non, ty_int_bl, ty_int_int, ty_int_str, ty_int_tup, ty_int_lst, ty_int_ref, ty_int_wtup, ty_bool_non, ty_bool_bl, ty_bool_int, ty_bool_str, ty_bool_tup, ty_bool_lst, ty_bool_ref, ty_bool_wtup, ty_str_non, ty_str_bl, ty_str_int, ty_str_str, ty_str_tup, ty_str_lst, ty_str_ref, ty_str_wtup, ty_tuple_non, ty_tuple_bl, ty_tuple_int, ty_tuple_str, ty_tuple_tup, ty_tuple_lst, ty_tuple_ref, ty_tuple_wtup, ty_list_non, ty_list_bl, ty_list_int, ty_list_str, ty_list_tup, ty_list_lst, ty_list_ref, ty_list_wtup, open_non, isNon_non, open_bl, isNon_bl, open_int, isNon_int, open_str, isNon_str, open_tup, isNon_tup, open_lst, isNon_lst, open_wtup, isNon_wtup, isNon_ref, open_ref, op_addI, op_addS, op_addL, op_addT, op_addML, op_subI, op_mulI, op_fdivI, op_modI, op_powI, cm_lt, cm_le, cm_gt, cm_ge, cm_eq, cm_ne, bi_lenT, bi_lenL, bi_lenS, bi_abs, bi_intI, bi_intB, bi_tupT, bi_tupL, bi_lstT, bi_lstL, bi_allL, bi_sortedL, ix_tup, ix_lst, ix_ref, tr_bl, it_tup, it_lst, eq_int, eq_bl, lst_lst, lst_ref, wipeD, permV, List.getD_cons_zero, List.getD_cons_succ, e_v, e_non, e_bl, e_int, e_str, e_glob, e_op2, e_neg, e_cmp, e_chain, e_isN, e_notN, e_band, e_bor, e_bnot, e_ifx, e_tup, e_lst, e_lstM, e_ix, e_slice, e_rev, e_call, e_callk, e_isi, e_isiT, e_bi, e_meth, e_lenset, e_rngs, e_dct, e_dget, e_dix, dixD_dict, e_comp, es_nil, es_cons, t_band, t_bor, t_bnot, t_cmp, t_chain, t_isN, t_notN, t_v, t_bl, t_call, t_callk, t_isi, t_isiT, t_bi, ts_nil, ts_one, o_none, o_some, i_rng1, i_rng2, i_ex, i_rvs, i_enmT, i_sgn, i_zp, negR_int, notR_bl, chR_t, chR_f, coR_t, coR_f, chR_ok, coR_ok, andR_t, andR_f, andR_ok, orR_t, orR_f, orR_ok, ifR_t, ifR_f, ifR_ok, optR_int, rng1R_int, rng2R_int, enmTR_tup, zpR_tup, zpR_lst, itSD_str, revD_tup, revD_lst, cutD_tup, cutD_lst, cutD_str, rngsD_int, isDictD_dict, dgetD_dict, cm_in, cm_notin, cm_ltS, cm_leS, in_dict, bind_assoc, guard_bind, b_nil, seq_nx, seq_rt, seq_bk, seq_ct, b_set, k_set, b_ex, k_ex, b_ret, k_ret, b_ife, k_ifT, k_ifF, b_par, k_par, k_par2, b_tri, k_tri, k_tri2, k_tri3, b_asg, k_asg, b_for, b_setix, b_pass, b_brk, b_cont])

/-! Mini 20: a law that may ask repr: it is called where no repr is under way. -/

/-- a def called at one place -/
def RunsAt (P : Program) (w : World) (K : PySem.W.Frag) (mg : Str → Option Value) (base : Heap) (A0 : Around) (fn : Addr) (fdat : FuncData) (ps : List Str) (want : Sp) : Prop :=
  ∀ (st0 : Shared) (H0 : Hp) (us : List Value) (vs : List V) (Q0 : VK) (E0 : XK), Env0 P w K mg base A0 [] st0 H0 → BindsTo st0 fdat ⟨us, []⟩ (ps.zip us) → Vals vs us → want vs H0 Q0 E0 →
    codeAny (model P w) A0 (.call (.ref fn) ⟨us, []⟩) (CR CX0 [] P w H0 st0 Q0 E0) st0
section
variable {P : Program} {w : World} {K : PySem.W.Frag} {mg : Str → Option Value} {base : Heap} {k : Nat} {den : List D → Hm → Res D}
theorem law_at {qual fdn : Str} {st : Stmt} {fn : Addr} {fdat : FuncData} {ps : List Str} {c : Ctx} {Γ : Gam} {body : Blk} {A0 : Around} (F : Fun K fdn qual st fn fdat) (S : FnScope c.N ps (defScope st)) (hc : c.names = (defScope st).names) (ho : c.own = none)
    (E : EnvOk P w K mg base k c Γ) (chk : chkB body c (defBody st) = true) (hn : ∀ ds h r h', den ds h = .ok r h' → ds.length = ps.length) (hb : BodyOk Γ c.N body den)
    (room : Room (k + 1) A0) (gd : A0.guards = some []) : RunsAt P w K mg base A0 fn fdat ps (spD K ps.length den) := by
  intro st0 H0 us vs Q0 E0 en bt vu hw
  obtain ⟨cO, dO, v1, v2, v3, v4, cd, v5, slO, rfl, look, hcd⟩ := F.ex
  have nvs : vs.length = ps.length := hw.1
  have keeps : ∀ b o, base.get? b = some o → st0.heap.get? b = some o := fun b o z => (en.bs b o z).1
  have inK : K.In st0.heap := en.mod.kin.keeps keeps
  have nolim : st0.heap.NoLimit := en.mod.nolimit.keeps keeps
  refine codeAny_call_function room.depth (inK _ _ look) rfl S.co S.gen rfl (PySem.W.codeRec_of inK hcd) (bt _ _ _ _ ?_)
  refine wpAny_newFunctionEnv_cells S.kind (fun z hz => ?_) fun env1 same1 st1 inC => ?_
  · rcases S.par z.1 (List.of_mem_zip hz).1 with q | q
    · exact Or.inl q
    · exact Or.inr ⟨q, PySem.W.cellsFrom_some _ _ _ (Or.inl q)⟩
  subst same1
  refine ⟨nolim.keeps inC.toInCall.keep, codeAny_func ?_⟩
  have snd := (sndB Γ body c _ _ (good_of (qual := qual) (P := P) (w := w) (K := K) (mg := mg) (base := base) (f := fn) (cdv := cd) (outer := []) (s := st0) (H := H0) (X := E0) (A := A0) S hc ho E (room.deeper _) fun _ => gd) chk).nox
  have I1 : L2.Inv (cxOf CX0 P w K mg base c.N qual (defScope st) fn cd A0 [] st0 H0 E0) [] (L2.start c.N vs) H0 st1 := inv_start S room.hd en nvs vu inC
  refine wpAny_mono (snd.run [] st1 _ H0 _ I1 (body_run hw hb)) (fun how st2 hs => ?_) fun _ _ hs => hs
  cases how with
  | ret u =>
    obtain ⟨v, σ2, H2, J, rv, q⟩ := hs
    exact ⟨v, H2, J.os, J.bare, J.base, J.hok, rv, q⟩
  | next =>
    obtain ⟨σ2, H2, J, q⟩ := hs
    exact ⟨V.non, H2, J.os, J.bare, J.base, J.hok, rfl, q⟩
  | brk =>
    obtain ⟨_, _, _, no⟩ := hs
    cases no
  | cont =>
    obtain ⟨_, _, _, no⟩ := hs
    cases no
/-- the script alone may be known -/
def Alone (H : Hp) : Prop := ∀ b, H b = none ∨ ∃ o xs, H b = some (.frz o (.lst xs))
theorem law_step2 {c : Ctx} {Γ : Gam} {body : Blk} {st : Stmt} {h0 : Heap} {fa : Addr} (A : DefAt K "law" st) (X : K.In h0) (G : h0.Ns mainGlobals mg) (hfa : mg "law" = some (.ref fa)) (S : FnScope c.N ["script"] (defScope st)) (hc : c.names = (defScope st).names) (ho : c.own = none)
    (E : ∀ base : Heap, EnvOk P w K mg base k c Γ) (chk : chkB body c (defBody st) = true)
    (hbind : ∀ (kV doc pm : Value) (an : Option Addr) (cdv ct : Value) (u : Value), bindArgs (PySem.W.fnOf "law" "law" (defArgs st) (defBody st) (defScope st) .none kV doc pm an cdv ct) ⟨[u], []⟩ = pure [(("script" : Str), u)])
    (hn : ∀ ds h r h', den ds h = .ok r h' → ds.length = 1) (hb : BodyOk Γ c.N body den) (room : Room (k + 1) callerA) :
    ∃ fd : FuncData, (∀ (s : Shared) (u : Value), BindsTo s fd ⟨[u], []⟩ [("script", u)]) ∧ ∀ base : Heap, K.In base → base.Ns mainGlobals mg → RunsAt P w K mg base callerA fa fd ["script"] (spD K 1 den) := by
  obtain ⟨f, fd, a, F⟩ := A
  have e := hfa.symm.trans (PySem.W.mg_of X G a)
  cases e
  refine ⟨fd, fun s u => ?_, fun base _ _ => law_at F S hc ho (E base) chk hn hb room rfl⟩
  obtain ⟨oc, od, kV, doc, pm, an, cdv, ct, osl, rfl, lk, hcd⟩ := F.ex
  exact .of_eq (hbind kV doc pm an cdv ct u)
/-- the call of the law, as the claim asks it -/
theorem law_asked {mb : Str → Option Value} {fa a : Addr} {fdat : FuncData} {st1 : Shared} {its : List Value} {ns : List Int}
    (inK : K.In st1.heap) (ns1 : st1.heap.Ns mainGlobals mg) (nb : st1.heap.Ns builtinsNs mb) (nbb : ∀ x : Str, x ≠ "__name__" → mb x = bootBuiltins x) (nol : st1.heap.NoLimit) (gens : st1.gens = #[])
    (lies : st1.heap.get? a = some { cls := .type "list", data := .seq its.toArray }) (cells : IntsAre its ns) (few : ns.length ≤ 63)
    (runs : ∀ base : Heap, K.In base → base.Ns mainGlobals mg → RunsAt P w K mg base callerA fa fdat ["script"] (spD K 1 den)) (bt : ∀ (s : Shared) (u : Value), BindsTo s fdat ⟨[u], []⟩ [("script", u)])
    (good : ∃ h', den [.lst (ns.map D.int)] [] = .ok (.bl true) h') :
    codeAny (model P w) callerA (.call (.ref fa) ⟨[.ref a], []⟩) (fun r s' => r = .ok (.ret (.bool true)) ∧ OldK st1.heap s'.heap ∧ s'.os = st1.os ∧ AllBare s'.gens) st1 := by
  have vals := vals_ints cells
  have big : (ns.map V.int).length ≤ sizeLine := by rw [List.length_map, sz]; omega
  have same := cells.length
  -- H1: what is known at the call
  have main : ∀ H1 : Hp, Alone H1 → SqL K H1 a (ns.map V.int) → HOk P w H1 st1.heap → (∀ b, H1 b ≠ none → b = a) → (H1 a ≠ none → K.lookup a = none) →
      codeAny (model P w) callerA (.call (.ref fa) ⟨[.ref a], []⟩) (fun r s' => r = .ok (.ret (.bool true)) ∧ OldK st1.heap s'.heap ∧ s'.os = st1.os ∧ AllBare s'.gens) st1 := by
    intro H1 al sq hok only free
    have dicts : ∀ {b : Addr} {o : Obj} {es : Array DictEntry} {ep : Nat}, st1.heap.get? b = some o → o.data = .dict es ep → H1 b = none := by
      intro b o es ep g dt
      rcases Classical.em (H1 b = none) with z | z
      · exact z
      · have eb := only b z
        rw [eb, lies] at g
        cases g
        cases (dt : Data.seq its.toArray _ = Data.dict es ep)
    have nsH : ∀ {b : Addr} {m : Str → Option Value}, st1.heap.Ns b m → (hidT st1.heap H1).Ns b m := by
      rintro b m ⟨o, es, ep, g, dt, r⟩
      exact ⟨o, es, ep, hidT_get g (dicts g dt), dt, r⟩
    have inH : K.In (hidT st1.heap H1) := by
      intro b o g
      refine hidT_get (inK b o g) ?_
      rcases Classical.em (H1 b = none) with z | z
      · exact z
      · have eb := only b z
        rw [eb] at z g
        rw [free z] at g
        cases g
    have modH : Mod K mg (hidT st1.heap H1) := by
      obtain ⟨mc, l1, l2⟩ := nol
      exact ⟨inH, nsH ns1, ⟨mb, nsH nb, nbb⟩, ⟨mc, nsH l1, l2⟩⟩
    have en : Env0 P w K mg (hidT st1.heap H1) callerA [] st1 H1 := by
      refine ⟨rfl, modH, fun b o g => of_hidT g, ?_, trivial, fun b hb => ?_, hok, .of_eq gens⟩
      · rw [hidT_size]
        exact Nat.le_refl _
      · cases (show b ∈ ([] : List Addr) from hb)
    refine codeAny_mono (runs _ inH (nsH ns1) st1 H1 [.ref a] [.ref a] _ _ en (bt st1 _) (.cons rfl .nil) (law_sp sq good)) fun r s' back => ?_
    cases r with
    | error e => exact False.elim back
    | ok how =>
      cases how with
      | next => exact False.elim back
      | brk => exact False.elim back
      | cont => exact False.elim back
      | ret u =>
        obtain ⟨v, H2, b1, b2, b3, b4, b5, b6⟩ := back
        cases (b6 : v = .bl true)
        cases (b5 : u = Value.bool true)
        refine ⟨rfl, OldK.of_keep fun b o g => ?_, b1, b2⟩
        rcases al b with z | ⟨ob, ys, z⟩
        · exact b3.keep b o g z (fun m => by cases (show b ∈ ([] : List Addr) from m)) (by simp)
        · have g1 := (hok b _ z).1
          have g2 := (b4 b _ (b3.frzs b ob _ z)).1
          rw [g] at g1
          cases g1
          exact g2
  rcases lk : K.lookup a with _ | o
  · let H1 : Hp := fun b => if b = a then some (.frz { cls := .type "list", data := .seq its.toArray } (.lst (ns.map V.int))) else none
    have at1 : H1 a = some (.frz { cls := .type "list", data := .seq its.toArray } (.lst (ns.map V.int))) := if_pos rfl
    have off : ∀ b, b ≠ a → H1 b = none := fun b hb => if_neg hb
    refine main H1 (fun b => ?_) (.inl (.inr ⟨_, at1⟩)) (fun b u z => ?_) (fun b z => ?_) fun _ => lk
    · by_cases hb : b = a
      · exact .inr ⟨_, _, by rw [hb]; exact at1⟩
      · exact .inl (off b hb)
    · by_cases hb : b = a
      · rw [hb, at1] at z
        cases z
        rw [hb]
        exact ⟨lies, big, its, _, vals, lies⟩
      · rw [off b hb] at z
        cases z
    · rcases Classical.em (b = a) with hb | hb
      · exact hb
      · exact absurd (off b hb) z
  · have g := inK a o lk
    rw [lies] at g
    cases g
    refine main (fun _ => none) (fun _ => .inl rfl) (.inr ⟨_, its.toArray, _, lk, rfl, rfl, rfl, ?_, by simpa using vals⟩) (fun b u z => nomatch (show none = some u from z)) (fun b z => absurd rfl z) fun z => absurd rfl z
    rw [List.size_toArray, same]
    rw [List.length_map] at big
    exact big
end
theorem law_walk2 {l : PySem.W.OpenLaw} {q : Program} {loose : List Str} {XP : (Str → Option Value) → Heap → Prop} {YP : World → Heap → Prop} {d : DefRec} {K : Params → PySem.W.Frag} {den : List D → Hm → Res D} (hn : l.most = some 63) (hdf : d.params.defaults = [])
    (hY : ∀ (w : World) (h : Heap), YP w h → (K w.params).In h) (hden : ∀ zs : List Int, zs.length ≤ 63 → ∃ h', den [.lst (zs.map .int)] [] = .ok (.bl true) h')
    (F : ∀ (w : World) (mg : Str → Option Value) (fa : Addr) (h : Heap), (K w.params).In h → h.Ns mainGlobals mg → mg d.name = some (.ref fa) →
      ∃ fd : FuncData, (∀ (s : Shared) (u : Value), BindsTo s fd ⟨[u], []⟩ [("script", u)]) ∧ ∀ base : Heap, (K w.params).In base → base.Ns mainGlobals mg → RunsAt l.prog w (K w.params) mg base callerA fa fd ["script"] (spD (K w.params) 1 den)) :
    PySem.W.WalkO q loose XP YP l.row.toRowW d [] (fun f vs => PySem.call f vs) := by
  refine Att.attach_call hn hdf fun w st0 st1 mg mb fa o pm cd doc a its ns gr yp g1 g2 g3 g4 g5 g6 g7 g8 => ?_
  obtain ⟨fd, bt, runs⟩ := F w mg fa _ (hY w _ yp) gr.T.g g4
  exact law_asked (hY w _ yp) gr.T.g gr.T.b gr.T.builtins gr.T.nolimit g8 g5 g6 g7 runs bt (hden ns g7)

/-! Mini 21: how long a value is when it is shown. -/
theorem lit_len (s : String) : (Str.ofString s).length = s.length := by
  rw [Str.ofString_eq_toList]
  show (List.toArray _).size = _
  rw [List.size_toArray, List.length_map]
  exact String.length_toList
theorem int_len (i : Int) : (Str.ofString (toString i)).length ≤ i.natAbs.log2 + 3 := by
  have key : ∀ n : Nat, (Str.ofString (toString (n : Int))).length ≤ n.log2 + 1 := fun n => by
    refine toString_length_le (Int.natCast_nonneg n) (Nat.succ_pos _) ?_
    have h1 : n < 2 ^ (n.log2 + 1) := Nat.lt_log2_self
    have h2 : 2 ^ (n.log2 + 1) ≤ 10 ^ (n.log2 + 1) := Nat.pow_le_pow_left (by decide) _
    exact_mod_cast Nat.lt_of_lt_of_le h1 h2
  cases i with
  | ofNat n => exact Nat.le_trans (key n) (by show _ ≤ n.log2 + 3; omega)
  | negSucc n =>
    have k := key (n + 1)
    rw [lit_len] at k ⊢
    rw [show toString (Int.negSucc n) = "-" ++ toString (n + 1) from rfl, String.length_append]
    have e : toString ((n + 1 : Nat) : Int) = toString (n + 1) := rfl
    rw [e] at k
    show 1 + _ ≤ (n + 1).log2 + 3
    omega
theorem join_len : ∀ ts : List Str, (Str.join (Str.ofString ", ") ts).length ≤ (ts.map fun t => t.length + 2).sum := fun ts => by
  induction ts with
  | nil => exact Nat.zero_le _
  | cons t ts ih =>
    cases ts with
    | nil => show t.length ≤ t.length + 2 + 0; omega
    | cons u us =>
      have e : Str.join (Str.ofString ", ") (t :: u :: us) = t ++ Str.ofString ", " ++ Str.join (Str.ofString ", ") (u :: us) := rfl
      rw [e, Str.length_append, Str.length_append, lit_len, List.map_cons, List.sum_cons]
      show t.length + 2 + _ ≤ _
      omega
theorem from_len : ∀ (ts : List Str) (k : Nat) (acc : Str), (textFrom k acc ts).length ≤ acc.length + (ts.map fun t => t.length + 2).sum
  | [], k, acc => Nat.le_add_right _ _
  | t :: ts, k, acc => by
    show (textFrom (k + 1) (acc ++ (Str.ofString (if k > 0 then ", " else "")) ++ t) ts).length ≤ _
    refine Nat.le_trans (from_len ts _ _) ?_
    rw [Str.length_append, Str.length_append, lit_len, List.map_cons, List.sum_cons]
    split
    · show acc.length + 2 + _ + _ ≤ _; omega
    · show acc.length + 0 + _ + _ ≤ _; omega
mutual
/-- a bound of a value's text -/
def wtD : D → Nat
  | .non => 4
  | .bl _ => 5
  | .int i => i.natAbs.log2 + 3
  | .str x => 10 * x.length + 2
  | .tup xs => wtDs xs + 3
  | .lst xs => wtDs xs + 2
  | _ => 0
def wtDs : List D → Nat
  | [] => 0
  | x :: xs => wtD x + 2 + wtDs xs
end
mutual
/-- numbers that can be shown -/
def logD : D → Bool
  | .int i => decide (i.natAbs.log2 < 1920)
  | .tup xs => logDs xs
  | .lst xs => logDs xs
  | _ => true
def logDs : List D → Bool
  | [] => true
  | x :: xs => logD x && logDs xs
end
theorem shown_all : ∀ (xs : List PyData), PyData.shownAll xs = xs.map PyData.shown
  | [] => rfl
  | x :: xs => by
    show x.shown :: PyData.shownAll xs = _
    rw [shown_all xs, List.map_cons]
mutual
theorem show_ok : ∀ (k : Nat) (d : D) (p : PyData), plainD k d = true → logD d = true → toPy d = some p → p.showable = true ∧ p.hasDict = false ∧ p.shown.length ≤ wtD d
  | _, .non, p, _, _, e => by
    cases e
    exact ⟨rfl, rfl, by show (Str.ofString "None").length ≤ 4; rw [lit_len]; decide⟩
  | _, .bl b, p, _, _, e => by
    cases e
    refine ⟨rfl, rfl, ?_⟩
    cases b
    · show (Str.ofString "False").length ≤ 5; rw [lit_len]; decide
    · show (Str.ofString "True").length ≤ 5; rw [lit_len]; decide
  | _, .int i, p, _, l, e => by
    cases e
    exact ⟨l, rfl, int_len i⟩
  | k, .str x, p, h, _, e => by
    cases e
    refine ⟨rfl, rfl, StrLaws.reprText_len x fun c hc => ?_⟩
    have h : PyData.strOk x = true := by cases k <;> exact h
    unfold PyData.strOk at h
    rw [Array.all_eq_true'] at h
    have := h c (by simpa using hc)
    exact Nat.lt_trans (of_decide_eq_true this) (by decide)
  | 0, .tup xs, p, h, _, _ => Bool.noConfusion h
  | k + 1, .tup xs, p, h, l, e => by
    have e : (toPys xs).map PyData.tuple = some p := e
    have h : (decide (xs.length ≤ 1000) && xs.all (plainD k)) = true := h
    rw [Bool.and_eq_true] at h
    cases e2 : toPys xs with
    | none => rw [e2] at e; cases e
    | some ps =>
      rw [e2] at e
      cases e
      obtain ⟨a1, a2, a3⟩ := shows_ok k xs ps h.2 l e2
      refine ⟨a1, a2, ?_⟩
      show (tupleText (PyData.shownAll ps)).length ≤ wtDs xs + 3
      unfold tupleText
      rw [Str.length_append, Str.length_append, lit_len, lit_len]
      have j := join_len (PyData.shownAll ps)
      have z : (if ((PyData.shownAll ps).length == 1) = true then ",)" else ")").length ≤ 2 := by split <;> decide
      show 1 + _ + _ ≤ _
      omega
  | 0, .lst xs, p, h, _, _ => Bool.noConfusion h
  | k + 1, .lst xs, p, h, l, e => by
    have e : (toPys xs).map PyData.list = some p := e
    have h : (decide (xs.length ≤ 1000) && xs.all (plainD k)) = true := h
    rw [Bool.and_eq_true] at h
    cases e2 : toPys xs with
    | none => rw [e2] at e; cases e
    | some ps =>
      rw [e2] at e
      cases e
      obtain ⟨a1, a2, a3⟩ := shows_ok k xs ps h.2 l e2
      refine ⟨a1, a2, ?_⟩
      show (listText (PyData.shownAll ps)).length ≤ wtDs xs + 2
      unfold listText
      rw [Str.length_append]
      have j := from_len (PyData.shownAll ps) 0 (Str.ofString "[")
      rw [lit_len] at j
      have z : (Str.ofString "]").length = 1 := by rw [lit_len]; decide
      have z2 : ("[" : String).length = 1 := by decide
      omega
  | k, .ref _, _, h, _, _ => by cases k <;> exact Bool.noConfusion h
  | k, .wtup _, _, h, _, _ => by cases k <;> exact Bool.noConfusion h
  | k, .dict _ _, _, h, _, _ => by cases k <;> exact Bool.noConfusion h
  | k, .fn _ _, _, h, _, _ => by cases k <;> exact Bool.noConfusion h
theorem shows_ok : ∀ (k : Nat) (xs : List D) (ps : List PyData), xs.all (plainD k) = true → logDs xs = true → toPys xs = some ps → PyData.showableAll ps = true ∧ PyData.hasDictAll ps = false ∧ ((PyData.shownAll ps).map fun t => t.length + 2).sum ≤ wtDs xs
  | _, [], ps, _, _, e => by
    cases e
    exact ⟨rfl, rfl, Nat.le_refl _⟩
  | k, x :: xs, ps, h, l, e => by
    rw [List.all_cons, Bool.and_eq_true] at h
    have l : (logD x && logDs xs) = true := l
    rw [Bool.and_eq_true] at l
    unfold toPys at e
    cases e1 : toPy x with
    | none => rw [e1] at e; cases e
    | some p =>
      cases e2 : toPys xs with
      | none => rw [e1, e2] at e; cases e
      | some qs =>
        rw [e1, e2] at e
        cases e
        obtain ⟨a1, a2, a3⟩ := show_ok k x p h.1 l.1 e1
        obtain ⟨b1, b2, b3⟩ := shows_ok k xs qs h.2 l.2 e2
        refine ⟨?_, ?_, ?_⟩
        · show (p.showable && PyData.showableAll qs) = true
          rw [a1, b1]
          rfl
        · show (p.hasDict || PyData.hasDictAll qs) = false
          rw [a2, b2]
          rfl
        · show ((p.shown :: PyData.shownAll qs).map fun t => t.length + 2).sum ≤ wtD x + 2 + wtDs xs
          rw [List.map_cons, List.sum_cons]
          omega
end
/-! its signs -/
theorem okS {x : Str} : PyData.strOk x = true ↔ ∀ c ∈ x.cps.toList, c < 1114112 := by
  unfold PyData.strOk
  rw [Array.all_eq_true']
  constructor
  · intro h c hc
    exact of_decide_eq_true (h c (by simpa using hc))
  · intro h c hc
    exact decide_eq_true (h c (by simpa using hc))
theorem okS_app {a b : Str} (ha : PyData.strOk a = true) (hb : PyData.strOk b = true) : PyData.strOk (a ++ b) = true := by
  rw [okS] at ha hb ⊢
  intro c hc
  have e : (a ++ b).cps.toList = a.cps.toList ++ b.cps.toList := Array.toList_append
  rw [e] at hc
  rcases List.mem_append.mp hc with h | h
  · exact ha c h
  · exact hb c h
theorem okS_lit {s : String} : PyData.strOk (Str.ofString s) = true := by
  rw [okS, Str.ofString_eq_toList]
  intro c hc
  have hc : c ∈ s.toList.map Char.toNat := by simpa using hc
  obtain ⟨x, _, rfl⟩ := List.mem_map.mp hc
  have v := x.valid
  have l : x.val.toNat < 0x110000 := by
    rcases v with v | v <;> omega
  exact l
theorem okS_join : ∀ ts : List Str, (∀ t ∈ ts, PyData.strOk t = true) → PyData.strOk (Str.join (Str.ofString ", ") ts) = true
  | [], _ => okS_lit (s := "")
  | [t], h => h t List.mem_cons_self
  | t :: u :: us, h => by
    have e : Str.join (Str.ofString ", ") (t :: u :: us) = t ++ Str.ofString ", " ++ Str.join (Str.ofString ", ") (u :: us) := rfl
    rw [e]
    exact okS_app (okS_app (h t List.mem_cons_self) okS_lit) (okS_join (u :: us) fun y hy => h y (List.mem_cons_of_mem _ hy))
theorem okS_from : ∀ (ts : List Str) (k : Nat) (acc : Str), PyData.strOk acc = true → (∀ t ∈ ts, PyData.strOk t = true) → PyData.strOk (textFrom k acc ts) = true
  | [], _, _, ha, _ => ha
  | t :: ts, k, acc, ha, h => okS_from ts (k + 1) (acc ++ (Str.ofString (if k > 0 then ", " else "")) ++ t) (okS_app (okS_app ha okS_lit) (h t List.mem_cons_self)) fun y hy => h y (List.mem_cons_of_mem _ hy)
theorem reprChar_ok {q c : Nat} (hc : c < 1114112) : ∀ y ∈ Builtin.Str.reprChar q c, y < 1114112 := by
  have dig : ∀ (w : Nat), ∀ y ∈ (List.replicate (w - ((Nat.toDigits 16 c).map Char.toNat).length) 48 ++ (Nat.toDigits 16 c).map Char.toNat), y < 1114112 := by
    intro w y hy
    rcases List.mem_append.mp hy with h | h
    · rw [(List.mem_replicate.mp h).2]; decide
    · obtain ⟨x, _, rfl⟩ := List.mem_map.mp h
      have v := x.valid
      show x.val.toNat < 1114112
      rcases v with v | v <;> omega
  have two : ∀ a b : Nat, a < 1114112 → b < 1114112 → ∀ y ∈ [a, b], y < 1114112 := by
    intro a b ha hb y hy
    rcases List.mem_cons.mp hy with rfl | hy
    · exact ha
    · rw [List.mem_singleton.mp hy]; exact hb
  have hex : ∀ (a w : Nat), a < 1114112 → ∀ y ∈ ([92, a] ++ (List.replicate (w - ((Nat.toDigits 16 c).map Char.toNat).length) 48 ++ (Nat.toDigits 16 c).map Char.toNat)), y < 1114112 := by
    intro a w ha y hy
    rcases List.mem_append.mp hy with h | h
    · exact two 92 a (by decide) ha y h
    · exact dig w y h
  unfold Builtin.Str.reprChar
  dsimp only
  split
  · exact two 92 c (by decide) hc
  · split
    · exact two 92 110 (by decide) (by decide)
    · split
      · exact two 92 114 (by decide) (by decide)
      · split
        · exact two 92 116 (by decide) (by decide)
        · split
          · intro y hy
            rw [List.mem_singleton.mp hy]
            exact hc
          · split
            · exact hex 120 2 (by decide)
            · split
              · exact hex 117 4 (by decide)
              · exact hex 85 8 (by decide)
theorem okS_repr {x : Str} (h : PyData.strOk x = true) : PyData.strOk (reprText x) = true := by
  have hq : reprQuote x < 1114112 := by
    unfold reprQuote
    split <;> decide
  have fold : ∀ (cs : List Nat) (acc : Array Nat), (∀ c ∈ cs, c < 1114112) → (∀ c ∈ acc.toList, c < 1114112) → ∀ c ∈ (cs.foldl (fun out c => out ++ (Builtin.Str.reprChar (reprQuote x) c).toArray) acc).toList, c < 1114112 := by
    intro cs
    induction cs with
    | nil => intro acc _ ha; exact ha
    | cons c cs ih =>
      intro acc hc ha
      rw [List.foldl_cons]
      refine ih _ (fun y hy => hc y (List.mem_cons_of_mem _ hy)) fun y hy => ?_
      rw [Array.toList_append] at hy
      rcases List.mem_append.mp hy with h | h
      · exact ha y h
      · exact reprChar_ok (hc c List.mem_cons_self) y h
  rw [okS]
  intro c hc
  unfold reprText at hc
  rw [← Array.foldl_toList] at hc
  simp only [Array.toList_push] at hc
  rcases List.mem_append.mp hc with hc | hc
  · exact fold x.cps.toList #[reprQuote x] (okS.mp h) (fun y hy => by
      rw [List.mem_singleton.mp (show y ∈ [reprQuote x] from hy)]
      exact hq) c hc
  · rw [List.mem_singleton.mp hc]
    exact hq
mutual
theorem shown_sig : ∀ (k : Nat) (d : D) (p : PyData), plainD k d = true → toPy d = some p → PyData.strOk p.shown = true
  | _, .non, p, _, e => by cases e; exact okS_lit (s := "None")
  | _, .bl b, p, _, e => by
    cases e
    cases b
    · exact okS_lit (s := "False")
    · exact okS_lit (s := "True")
  | _, .int i, p, _, e => by cases e; exact okS_lit (s := toString i)
  | k, .str x, p, h, e => by
    cases e
    exact okS_repr (by cases k <;> exact h)
  | 0, .tup xs, p, h, _ => Bool.noConfusion h
  | k + 1, .tup xs, p, h, e => by
    have e : (toPys xs).map PyData.tuple = some p := e
    have h : (decide (xs.length ≤ 1000) && xs.all (plainD k)) = true := h
    rw [Bool.and_eq_true] at h
    cases e2 : toPys xs with
    | none => rw [e2] at e; cases e
    | some ps =>
      rw [e2] at e
      cases e
      show PyData.strOk (tupleText (PyData.shownAll ps)) = true
      unfold tupleText
      exact okS_app (okS_app okS_lit (okS_join _ (shown_sigs k xs ps h.2 e2))) okS_lit
  | 0, .lst xs, p, h, _ => Bool.noConfusion h
  | k + 1, .lst xs, p, h, e => by
    have e : (toPys xs).map PyData.list = some p := e
    have h : (decide (xs.length ≤ 1000) && xs.all (plainD k)) = true := h
    rw [Bool.and_eq_true] at h
    cases e2 : toPys xs with
    | none => rw [e2] at e; cases e
    | some ps =>
      rw [e2] at e
      cases e
      show PyData.strOk (listText (PyData.shownAll ps)) = true
      unfold listText
      exact okS_app (okS_from _ _ _ (okS_lit (s := "[")) (shown_sigs k xs ps h.2 e2)) okS_lit
  | k, .ref _, _, h, _ => by cases k <;> exact Bool.noConfusion h
  | k, .wtup _, _, h, _ => by cases k <;> exact Bool.noConfusion h
  | k, .dict _ _, _, h, _ => by cases k <;> exact Bool.noConfusion h
  | k, .fn _ _, _, h, _ => by cases k <;> exact Bool.noConfusion h
theorem shown_sigs : ∀ (k : Nat) (xs : List D) (ps : List PyData), xs.all (plainD k) = true → toPys xs = some ps → ∀ t ∈ PyData.shownAll ps, PyData.strOk t = true
  | _, [], ps, _, e => by
    cases e
    intro t ht
    cases ht
  | k, x :: xs, ps, h, e => by
    rw [List.all_cons, Bool.and_eq_true] at h
    unfold toPys at e
    cases e1 : toPy x with
    | none => rw [e1] at e; cases e
    | some p =>
      cases e2 : toPys xs with
      | none => rw [e1, e2] at e; cases e
      | some qs =>
        rw [e1, e2] at e
        cases e
        intro t ht
        have ht : t ∈ p.shown :: PyData.shownAll qs := ht
        rcases List.mem_cons.mp ht with rfl | ht
        · exact shown_sig k x p h.1 e1
        · exact shown_sigs k xs qs h.2 e2 t ht
end
/-- repr of plain data -/
def shownOf (d : D) : Str := match toPy d with
  | some p => p.shown
  | none => Str.ofString ""
theorem repr_plain {k : Nat} {d : D} {h : Hm} (s : d = .tup ((match d with | .tup xs => xs | _ => [])) ∨ d = .lst ((match d with | .lst xs => xs | _ => []))) (hk : k ≤ 60) (p : plainD k d = true) (l : logD d = true) (w : wtD d ≤ 16000000) : biD .repr [d] h = .ok (.str (shownOf d)) h := by
  obtain ⟨q, e1, _, e3, _⟩ := plain_py k d p
  obtain ⟨a1, a2, a3⟩ := show_ok k d q p l e1
  have e4 : toPyH h d = some q := toPyH_of e1
  show reprD d h = _
  unfold reprD shownOf
  rw [e4, e1]
  have sq : isSq d = true := by rcases s with s | s <;> (rw [s]; rfl)
  rw [sq]
  dsimp only
  rw [a1, a2, decide_eq_true (show q.depth ≤ 60 by omega), decide_eq_true (show q.shown.length ≤ LIM from Nat.le_trans a3 (Nat.le_trans w (by decide)))]
  rfl
theorem shownOf_ok {k : Nat} {d : D} (p : plainD k d = true) : PyData.strOk (shownOf d) = true := by
  obtain ⟨q, e1, _⟩ := plain_py k d p
  unfold shownOf
  rw [e1]
  exact shown_sig k d q p e1

namespace K12
def top (i : Nat) : Stmt := PySem.Challenge.pw_drawntold_k12_rows_and_tables_judged.main.body.getD i (.Pass ⟨0, 0, 0, 0⟩)
def fnm : List Str := ("is_between" : Str) :: ("is_tuple_of" : Str) :: ("is_word" : Str) :: ("are_words" : Str) :: ("is_kind" : Str) :: ("has_words" : Str) :: ("values_of" : Str) :: ("count_over" : Str) :: ("is_columns" : Str) :: ("check_columns" : Str) :: ("is_value" : Str) :: ("is_row_of" : Str) :: ("is_row" : Str) :: ("table_fault" : Str) :: ("is_table" : Str) :: ("_law_brush" : Str) :: ("_law_dab" : Str) :: ("_law_pick" : Str) :: ("_law_same" : Str) :: ("_law_columns" : Str) :: ("_law_values" : Str) :: ("_law_row" : Str) :: ("_law_table" : Str) :: ("_law_int" : Str) :: ("_law_bent" : Str) :: ("_law_is_row" : Str) :: ("_law_fault" : Str) :: ("_law_wrong_row" : Str) :: ("law" : Str) :: []
def glm : List Str := ("MOST_COLUMNS" : Str) :: ("MOST_NUMBER" : Str) :: ("MOST_SPAN" : Str) :: ("MOST_WORDS" : Str) :: ("MOST_OVER" : Str) :: ("MOST_ROWS" : Str) :: []
abbrev n_is_between : Nat := 0
abbrev n_is_tuple_of : Nat := 1
abbrev n_is_word : Nat := 2
abbrev n_are_words : Nat := 3
abbrev n_is_kind : Nat := 4
abbrev n_has_words : Nat := 5
abbrev n_values_of : Nat := 6
abbrev n_count_over : Nat := 7
abbrev n_is_columns : Nat := 8
abbrev n_check_columns : Nat := 9
abbrev n_is_value : Nat := 10
abbrev n_is_row_of : Nat := 11
abbrev n_is_row : Nat := 12
abbrev n_table_fault : Nat := 13
abbrev n_is_table : Nat := 14
abbrev n_law_brush : Nat := 15
abbrev n_law_dab : Nat := 16
abbrev n_law_pick : Nat := 17
abbrev n_law_same : Nat := 18
abbrev n_law_columns : Nat := 19
abbrev n_law_values : Nat := 20
abbrev n_law_row : Nat := 21
abbrev n_law_table : Nat := 22
abbrev n_law_int : Nat := 23
abbrev n_law_bent : Nat := 24
abbrev n_law_is_row : Nat := 25
abbrev n_law_fault : Nat := 26
abbrev n_law_wrong_row : Nat := 27
abbrev n_law : Nat := 28
/-! is_between: slots ['least', 'value', 'most'] -/
abbrev s_is_between : Stmt := top 4
def c_is_between : Ctx := ⟨["least", "value", "most"], (defScope s_is_between).names, none, fnm, glm, [], false⟩
def b_is_between : Blk := .cons (.ret (.band (.isi (.v 1) .int) (.band (.bnot (.isi (.v 1) .bool)) (.chain .le .le (.v 0) (.v 1) (.v 2))))) .nil
theorem k_is_between : chkB b_is_between c_is_between (defBody s_is_between) = true := by decide +kernel
theorem f_is_between : FnScope ["least", "value", "most"] ["least", "value", "most"] (defScope s_is_between) := ⟨rfl, rfl, rfl, by decide +kernel, rfl, by decide +kernel, by decide +kernel⟩
/-! is_tuple_of: slots ['length', 'value'] -/
abbrev s_is_tuple_of : Stmt := top 5
def c_is_tuple_of : Ctx := ⟨["length", "value"], (defScope s_is_tuple_of).names, none, fnm, glm, [], false⟩
def b_is_tuple_of : Blk := .cons (.ret (.band (.isi (.v 1) .tuple) (.cmp .eq (.bi .len (.cons (.v 1) .nil)) (.v 0)))) .nil
theorem k_is_tuple_of : chkB b_is_tuple_of c_is_tuple_of (defBody s_is_tuple_of) = true := by decide +kernel
theorem f_is_tuple_of : FnScope ["length", "value"] ["length", "value"] (defScope s_is_tuple_of) := ⟨rfl, rfl, rfl, by decide +kernel, rfl, by decide +kernel, by decide +kernel⟩
/-! is_word: slots ['value', 'sign'] -/
abbrev s_is_word : Stmt := top 6
def c_is_word : Ctx := ⟨["value", "sign"], (defScope s_is_word).names, none, fnm, glm, [], false⟩
def b_is_word : Blk := .cons (.ret (.band (.isi (.v 0) .str) (.band (.chain .le .le (.int 1) (.bi .len (.cons (.v 0) .nil)) (.int 8)) (.bi .all (.cons (.comp false [("sign", 1)] (.v 1) (.sgn (.v 0)) .nil (.chain .le .le (.str "a") (.v 1) (.str "z"))) .nil))))) .nil
theorem k_is_word : chkB b_is_word c_is_word (defBody s_is_word) = true := by decide +kernel
theorem f_is_word : FnScope ["value", "sign"] ["value"] (defScope s_is_word) := ⟨rfl, rfl, rfl, by decide +kernel, rfl, by decide +kernel, by decide +kernel⟩
/-! are_words: slots ['most', 'value', 'word'] -/
abbrev s_are_words : Stmt := top 14
def c_are_words : Ctx := ⟨["most", "value", "word"], (defScope s_are_words).names, none, fnm, glm, [], false⟩
def b_are_words_3 : Blk := .cons (.ret (.bl false)) .nil
def b_are_words_2 : Blk := .cons (.ret (.cmp .eq (.lenset (.v 1)) (.bi .len (.cons (.v 1) .nil)))) .nil
def b_are_words : Blk := .cons (.ife (.bor (.bnot (.isi (.v 1) .tuple)) (.bor (.bnot (.chain .le .le (.int 1) (.bi .len (.cons (.v 1) .nil)) (.v 0))) (.bnot (.bi .all (.cons (.comp false [("word", 2)] (.v 2) (.ex (.v 1)) .nil (.call n_is_word (.cons (.v 2) .nil))) .nil))))) b_are_words_3 .nil) b_are_words_2
theorem k_are_words : chkB b_are_words c_are_words (defBody s_are_words) = true := by decide +kernel
theorem f_are_words : FnScope ["most", "value", "word"] ["most", "value"] (defScope s_are_words) := ⟨rfl, rfl, rfl, by decide +kernel, rfl, by decide +kernel, by decide +kernel⟩
/-! is_kind: slots ['value'] -/
abbrev s_is_kind : Stmt := top 15
def c_is_kind : Ctx := ⟨["value"], (defScope s_is_kind).names, none, fnm, glm, [], false⟩
def b_is_kind_5 : Blk := .cons (.ret (.call n_are_words (.cons (.glob 3) (.cons (.ix (.v 0) (.int 1)) .nil)))) .nil
def b_is_kind_6 : Blk := .cons (.ret (.bl false)) .nil
def b_is_kind_7 : Blk := .cons (.ret (.bl false)) .nil
def b_is_kind_4 : Blk := .cons (.ret (.chain .le .le (.int 0) (.op2 .sub (.ix (.v 0) (.int 2)) (.ix (.v 0) (.int 1))) (.glob 2))) .nil
def b_is_kind_3 : Blk := .cons (.ife (.bor (.bnot (.call n_is_between (.cons (.neg (.glob 1)) (.cons (.ix (.v 0) (.int 1)) (.cons (.glob 1) .nil))))) (.bnot (.call n_is_between (.cons (.neg (.glob 1)) (.cons (.ix (.v 0) (.int 2)) (.cons (.glob 1) .nil)))))) b_is_kind_7 .nil) b_is_kind_4
def b_is_kind_2 : Blk := .cons (.ife (.bor (.bnot (.call n_is_tuple_of (.cons (.int 3) (.cons (.v 0) .nil)))) (.bor (.bnot (.isi (.ix (.v 0) (.int 0)) .str)) (.cmp .ne (.ix (.v 0) (.int 0)) (.str "number")))) b_is_kind_6 .nil) b_is_kind_3
def b_is_kind : Blk := .cons (.ife (.band (.call n_is_tuple_of (.cons (.int 2) (.cons (.v 0) .nil))) (.band (.isi (.ix (.v 0) (.int 0)) .str) (.cmp .eq (.ix (.v 0) (.int 0)) (.str "word")))) b_is_kind_5 .nil) b_is_kind_2
theorem k_is_kind : chkB b_is_kind c_is_kind (defBody s_is_kind) = true := by decide +kernel
theorem f_is_kind : FnScope ["value"] ["value"] (defScope s_is_kind) := ⟨rfl, rfl, rfl, by decide +kernel, rfl, by decide +kernel, by decide +kernel⟩
/-! has_words: slots ['column'] -/
abbrev s_has_words : Stmt := top 16
def c_has_words : Ctx := ⟨["column"], (defScope s_has_words).names, none, fnm, glm, [], false⟩
def b_has_words : Blk := .cons (.ret (.cmp .eq (.ix (.ix (.v 0) (.int 1)) (.int 0)) (.str "word"))) .nil
theorem k_has_words : chkB b_has_words c_has_words (defBody s_has_words) = true := by decide +kernel
theorem f_has_words : FnScope ["column"] ["column"] (defScope s_has_words) := ⟨rfl, rfl, rfl, by decide +kernel, rfl, by decide +kernel, by decide +kernel⟩
/-! values_of: slots ['column', 'kind'] -/
abbrev s_values_of : Stmt := top 17
def c_values_of : Ctx := ⟨["column", "kind"], (defScope s_values_of).names, none, fnm, glm, [], false⟩
def b_values_of_2 : Blk := .cons (.ret (.ifx (.call n_has_words (.cons (.v 0) .nil)) (.ix (.v 1) (.int 1)) (.rngs false (.ix (.v 1) (.int 1)) (.op2 .add (.ix (.v 1) (.int 2)) (.int 1))))) .nil
def b_values_of : Blk := .cons (.set 1 (.ix (.v 0) (.int 1))) b_values_of_2
theorem k_values_of : chkB b_values_of c_values_of (defBody s_values_of) = true := by decide +kernel
theorem f_values_of : FnScope ["column", "kind"] ["column"] (defScope s_values_of) := ⟨rfl, rfl, rfl, by decide +kernel, rfl, by decide +kernel, by decide +kernel⟩
/-! count_over: slots ['columns', 'found', 'column'] -/
abbrev s_count_over : Stmt := top 18
def c_count_over : Ctx := ⟨["columns", "found", "column"], (defScope s_count_over).names, none, fnm, glm, [], false⟩
def b_count_over_4 : Blk := .cons (.set 1 (.op2 .mul (.v 1) (.bi .len (.cons (.call n_values_of (.cons (.v 2) .nil)) .nil)))) .nil
def b_count_over_3 : Blk := .cons (.ret (.v 1)) .nil
def b_count_over_2 : Blk := .cons (.for_ (.v 2) (.ex (.v 0)) b_count_over_4) b_count_over_3
def b_count_over : Blk := .cons (.set 1 (.int 1)) b_count_over_2
theorem k_count_over : chkB b_count_over c_count_over (defBody s_count_over) = true := by decide +kernel
theorem f_count_over : FnScope ["columns", "found", "column"] ["columns"] (defScope s_count_over) := ⟨rfl, rfl, rfl, by decide +kernel, rfl, by decide +kernel, by decide +kernel⟩
/-! is_columns: slots ['value', 'column'] -/
abbrev s_is_columns : Stmt := top 19
def c_is_columns : Ctx := ⟨["value", "column"], (defScope s_is_columns).names, none, fnm, glm, [], false⟩
def b_is_columns_4 : Blk := .cons (.ret (.bl false)) .nil
def b_is_columns_5 : Blk := .cons (.ret (.bl false)) .nil
def b_is_columns_3 : Blk := .cons (.ret (.band (.call n_are_words (.cons (.glob 0) (.cons (.bi .tuple (.cons (.comp false [("column", 1)] (.v 1) (.ex (.v 0)) .nil (.ix (.v 1) (.int 0))) .nil)) .nil))) (.cmp .le (.call n_count_over (.cons (.v 0) .nil)) (.glob 4)))) .nil
def b_is_columns_2 : Blk := .cons (.ife (.bnot (.bi .all (.cons (.comp false [("column", 1)] (.v 1) (.ex (.v 0)) .nil (.band (.call n_is_tuple_of (.cons (.int 2) (.cons (.v 1) .nil))) (.call n_is_kind (.cons (.ix (.v 1) (.int 1)) .nil)))) .nil))) b_is_columns_5 .nil) b_is_columns_3
def b_is_columns : Blk := .cons (.ife (.bor (.bnot (.isi (.v 0) .tuple)) (.bnot (.chain .le .le (.int 1) (.bi .len (.cons (.v 0) .nil)) (.glob 0)))) b_is_columns_4 .nil) b_is_columns_2
theorem k_is_columns : chkB b_is_columns c_is_columns (defBody s_is_columns) = true := by decide +kernel
theorem f_is_columns : FnScope ["value", "column"] ["value"] (defScope s_is_columns) := ⟨rfl, rfl, rfl, by decide +kernel, rfl, by decide +kernel, by decide +kernel⟩
/-! check_columns: slots ['columns'] -/
abbrev s_check_columns : Stmt := top 20
def c_check_columns : Ctx := ⟨["columns"], (defScope s_check_columns).names, none, fnm, glm, [], false⟩
def b_check_columns_2 : Blk := .cons .never .nil
def b_check_columns : Blk := .cons (.ife (.bnot (.call n_is_columns (.cons (.v 0) .nil))) b_check_columns_2 .nil) .nil
theorem k_check_columns : chkB b_check_columns c_check_columns (defBody s_check_columns) = true := by decide +kernel
theorem f_check_columns : FnScope ["columns"] ["columns"] (defScope s_check_columns) := ⟨rfl, rfl, rfl, by decide +kernel, rfl, by decide +kernel, by decide +kernel⟩
/-! is_value: slots ['column', 'value'] -/
abbrev s_is_value : Stmt := top 21
def c_is_value : Ctx := ⟨["column", "value"], (defScope s_is_value).names, none, fnm, glm, [], false⟩
def b_is_value_3 : Blk := .cons (.ret (.band (.isi (.v 1) .str) (.cmp .isin (.v 1) (.ix (.ix (.v 0) (.int 1)) (.int 1))))) .nil
def b_is_value_2 : Blk := .cons (.ret (.call n_is_between (.cons (.ix (.ix (.v 0) (.int 1)) (.int 1)) (.cons (.v 1) (.cons (.ix (.ix (.v 0) (.int 1)) (.int 2)) .nil))))) .nil
def b_is_value : Blk := .cons (.ife (.call n_has_words (.cons (.v 0) .nil)) b_is_value_3 .nil) b_is_value_2
theorem k_is_value : chkB b_is_value c_is_value (defBody s_is_value) = true := by decide +kernel
theorem f_is_value : FnScope ["column", "value"] ["column", "value"] (defScope s_is_value) := ⟨rfl, rfl, rfl, by decide +kernel, rfl, by decide +kernel, by decide +kernel⟩
/-! is_row_of: slots ['columns', 'value', 'own', 'one'] -/
abbrev s_is_row_of : Stmt := top 22
def c_is_row_of : Ctx := ⟨["columns", "value", "own", "one"], (defScope s_is_row_of).names, none, fnm, glm, [], false⟩
def b_is_row_of : Blk := .cons (.ret (.band (.call n_is_tuple_of (.cons (.bi .len (.cons (.v 0) .nil)) (.cons (.v 1) .nil))) (.bi .all (.cons (.comp false [("own", 2), ("one", 3)] (.tup [2, 3]) (.zp (.v 0) (.v 1)) .nil (.call n_is_value (.cons (.v 2) (.cons (.v 3) .nil)))) .nil)))) .nil
theorem k_is_row_of : chkB b_is_row_of c_is_row_of (defBody s_is_row_of) = true := by decide +kernel
theorem f_is_row_of : FnScope ["columns", "value", "own", "one"] ["columns", "value"] (defScope s_is_row_of) := ⟨rfl, rfl, rfl, by decide +kernel, rfl, by decide +kernel, by decide +kernel⟩
/-! is_row: slots ['columns', 'value'] -/
abbrev s_is_row : Stmt := top 23
def c_is_row : Ctx := ⟨["columns", "value"], (defScope s_is_row).names, none, fnm, glm, [], false⟩
def b_is_row_2 : Blk := .cons (.ret (.call n_is_row_of (.cons (.v 0) (.cons (.v 1) .nil)))) .nil
def b_is_row : Blk := .cons (.ex (.call n_check_columns (.cons (.v 0) .nil))) b_is_row_2
theorem k_is_row : chkB b_is_row c_is_row (defBody s_is_row) = true := by decide +kernel
theorem f_is_row : FnScope ["columns", "value"] ["columns", "value"] (defScope s_is_row) := ⟨rfl, rfl, rfl, by decide +kernel, rfl, by decide +kernel, by decide +kernel⟩
/-! table_fault: slots ['value', 'k', 'row'] -/
abbrev s_table_fault : Stmt := top 24
def c_table_fault : Ctx := ⟨["value", "k", "row"], (defScope s_table_fault).names, none, fnm, glm, [], false⟩
def b_table_fault_4 : Blk := .cons (.ret (.int 0)) .nil
def b_table_fault_6 : Blk := .cons (.ret (.v 1)) .nil
def b_table_fault_5 : Blk := .cons (.ife (.bor (.cmp .eq (.v 1) (.glob 5)) (.bnot (.call n_is_row_of (.cons (.ix (.v 0) (.int 0)) (.cons (.v 2) .nil))))) b_table_fault_6 .nil) .nil
def b_table_fault_3 : Blk := .cons (.ret .non) .nil
def b_table_fault_2 : Blk := .cons (.for_ (.tup [1, 2]) (.enmT (.ix (.v 0) (.int 1))) b_table_fault_5) b_table_fault_3
def b_table_fault : Blk := .cons (.ife (.bor (.bnot (.call n_is_tuple_of (.cons (.int 2) (.cons (.v 0) .nil)))) (.bor (.bnot (.call n_is_columns (.cons (.ix (.v 0) (.int 0)) .nil))) (.bnot (.isi (.ix (.v 0) (.int 1)) .tuple)))) b_table_fault_4 .nil) b_table_fault_2
theorem k_table_fault : chkB b_table_fault c_table_fault (defBody s_table_fault) = true := by decide +kernel
theorem f_table_fault : FnScope ["value", "k", "row"] ["value"] (defScope s_table_fault) := ⟨rfl, rfl, rfl, by decide +kernel, rfl, by decide +kernel, by decide +kernel⟩
/-! is_table: slots ['value'] -/
abbrev s_is_table : Stmt := top 25
def c_is_table : Ctx := ⟨["value"], (defScope s_is_table).names, none, fnm, glm, [], false⟩
def b_is_table : Blk := .cons (.ret (.isN (.call n_table_fault (.cons (.v 0) .nil)))) .nil
theorem k_is_table : chkB b_is_table c_is_table (defBody s_is_table) = true := by decide +kernel
theorem f_is_table : FnScope ["value"] ["value"] (defScope s_is_table) := ⟨rfl, rfl, rfl, by decide +kernel, rfl, by decide +kernel, by decide +kernel⟩
/-! _law_brush: slots ['script', 'deep', 'cell', 'paint'] -/
abbrev s_law_brush : Stmt := top 27
def c_law_brush : Ctx := ⟨["script", "deep", "cell", "paint"], (defScope s_law_brush).names, none, fnm, glm, [], false⟩
def b_law_brush_5 : Blk := .cons (.set 3 (.op2 .mod (.bi .int (.cons (.op2 .add (.op2 .add (.op2 .mul (.v 3) (.int 48271)) (.op2 .mul (.v 2) (.int 69621))) (.int 13)) .nil)) (.op2 .sub (.op2 .pow (.int 2) (.int 61)) (.int 1)))) .nil
def b_law_brush_4 : Blk := .cons (.ret (.lstM (.cons (.v 1) (.cons (.v 3) (.cons (.int 0) .nil))))) .nil
def b_law_brush_3 : Blk := .cons (.for_ (.v 2) (.ex (.v 0)) b_law_brush_5) b_law_brush_4
def b_law_brush_2 : Blk := .cons (.set 3 (.op2 .add (.int 7927) (.op2 .mul (.int 11) (.bi .len (.cons (.v 0) .nil))))) b_law_brush_3
def b_law_brush : Blk := .cons (.set 1 (.comp true [("cell", 2)] (.v 2) (.ex (.v 0)) (.cons (.cmp .ge (.v 2) (.op2 .pow (.int 10) (.int 18))) .nil) (.op2 .sub (.v 2) (.op2 .pow (.int 10) (.int 18))))) b_law_brush_2
theorem k_law_brush : chkB b_law_brush c_law_brush (defBody s_law_brush) = true := by decide +kernel
theorem f_law_brush : FnScope ["script", "deep", "cell", "paint"] ["script"] (defScope s_law_brush) := ⟨rfl, rfl, rfl, by decide +kernel, rfl, by decide +kernel, by decide +kernel⟩
/-! _law_dab: slots ['brush', 'many', 'deep', 'found'] -/
abbrev s_law_dab : Stmt := top 28
def c_law_dab : Ctx := ⟨["brush", "many", "deep", "found"], (defScope s_law_dab).names, none, fnm, glm, [], false⟩
def b_law_dab_7 : Blk := .cons (.ex (.meth .popAt (.v 2) (.cons (.int 0) .nil))) .nil
def b_law_dab_10 : Blk := .cons (.ret (.v 3)) .nil
def b_law_dab_9 : Blk := .cons (.setix (.v 2) (.int 0) (.op2 .fdiv (.ix (.v 2) (.int 0)) (.v 1))) b_law_dab_10
def b_law_dab_8 : Blk := .cons (.set 3 (.op2 .mod (.bi .int (.cons (.ix (.v 2) (.int 0)) .nil)) (.v 1))) b_law_dab_9
def b_law_dab_6 : Blk := .cons (.ret (.op2 .mod (.op2 .fdiv (.op2 .mod (.bi .int (.cons (.op2 .add (.op2 .mul (.ix (.v 0) (.int 1)) (.ix (.v 0) (.int 1))) (.op2 .fdiv (.ix (.v 0) (.int 1)) (.int 16384))) .nil)) (.op2 .add (.op2 .pow (.int 2) (.int 59)) (.int 131))) (.int 131072)) (.v 1))) .nil
def b_law_dab_5 : Blk := .cons (.setix (.v 0) (.int 1) (.op2 .mod (.bi .int (.cons (.op2 .add (.op2 .mul (.ix (.v 0) (.int 1)) (.int 6364136223846793005)) (.op2 .mul (.ix (.v 0) (.int 2)) (.int 1442695040888963407))) .nil)) (.op2 .sub (.op2 .pow (.int 2) (.int 61)) (.int 1)))) b_law_dab_6
def b_law_dab_4 : Blk := .cons (.setix (.v 0) (.int 2) (.op2 .add (.ix (.v 0) (.int 2)) (.int 1))) b_law_dab_5
def b_law_dab_3 : Blk := .cons (.ife (.cmp .ne (.v 2) (.lst .nil)) b_law_dab_8 .nil) b_law_dab_4
def b_law_dab_2 : Blk := .cons (.while_ (.band (.cmp .ne (.v 2) (.lst .nil)) (.cmp .eq (.ix (.v 2) (.int 0)) (.int 0))) b_law_dab_7) b_law_dab_3
def b_law_dab : Blk := .cons (.set 2 (.ix (.v 0) (.int 0))) b_law_dab_2
theorem k_law_dab : chkB b_law_dab c_law_dab (defBody s_law_dab) = true := by decide +kernel
theorem f_law_dab : FnScope ["brush", "many", "deep", "found"] ["brush", "many"] (defScope s_law_dab) := ⟨rfl, rfl, rfl, by decide +kernel, rfl, by decide +kernel, by decide +kernel⟩
/-! _law_pick: slots ['brush', 'things'] -/
abbrev s_law_pick : Stmt := top 29
def c_law_pick : Ctx := ⟨["brush", "things"], (defScope s_law_pick).names, none, fnm, glm, [], false⟩
def b_law_pick : Blk := .cons (.ret (.ix (.v 1) (.call n_law_dab (.cons (.v 0) (.cons (.bi .len (.cons (.v 1) .nil)) .nil))))) .nil
theorem k_law_pick : chkB b_law_pick c_law_pick (defBody s_law_pick) = true := by decide +kernel
theorem f_law_pick : FnScope ["brush", "things"] ["brush", "things"] (defScope s_law_pick) := ⟨rfl, rfl, rfl, by decide +kernel, rfl, by decide +kernel, by decide +kernel⟩
/-! _law_same: slots ['found', 'due', 'k'] -/
abbrev s_law_same : Stmt := top 30
def c_law_same : Ctx := ⟨["found", "due", "k"], (defScope s_law_same).names, none, fnm, glm, [], false⟩
def b_law_same_6 : Blk := .cons (.ret (.bl false)) .nil
def b_law_same_5 : Blk := .cons (.ret (.band (.cmp .eq (.bi .len (.cons (.v 0) .nil)) (.bi .len (.cons (.v 1) .nil))) (.bi .all (.cons (.comp false [("k", 2)] (.v 2) (.rng1 (.bi .len (.cons (.v 1) .nil))) .nil (.call n_law_same (.cons (.ix (.v 0) (.v 2)) (.cons (.ix (.v 1) (.v 2)) .nil)))) .nil)))) .nil
def b_law_same_4 : Blk := .cons (.ife (.bor (.cmp .ne (.isi (.v 0) .tuple) (.isi (.v 1) .tuple)) (.cmp .ne (.isi (.v 0) .list) (.isi (.v 1) .list))) b_law_same_6 .nil) b_law_same_5
def b_law_same_7 : Blk := .cons (.ret (.bl false)) .nil
def b_law_same_3 : Blk := .cons (.ret (.band (.cmp .eq (.isi (.v 0) .str) (.isi (.v 1) .str)) (.cmp .eq (.v 0) (.v 1)))) .nil
def b_law_same_2 : Blk := .cons (.ife (.bor (.cmp .ne (.isi (.v 0) .bool) (.isi (.v 1) .bool)) (.cmp .ne (.isi (.v 0) .int) (.isi (.v 1) .int))) b_law_same_7 .nil) b_law_same_3
def b_law_same : Blk := .cons (.ife (.isiT (.v 1) [.tuple, .list]) b_law_same_4 .nil) b_law_same_2
theorem k_law_same : chkB b_law_same c_law_same (defBody s_law_same) = true := by decide +kernel
theorem f_law_same : FnScope ["found", "due", "k"] ["found", "due"] (defScope s_law_same) := ⟨rfl, rfl, rfl, by decide +kernel, rfl, by decide +kernel, by decide +kernel⟩
/-! _law_columns: slots ['brush', 'wide', 'words', 'names', 'found', 'many', 'k', 'low', 'span', 'size', 'first', 'kind', 'j'] -/
abbrev s_law_columns : Stmt := top 31
def c_law_columns : Ctx := ⟨["brush", "wide", "words", "names", "found", "many", "k", "low", "span", "size", "first", "kind", "j"], (defScope s_law_columns).names, none, fnm, glm, [], false⟩
def b_law_columns_11 : Blk := .cons (.ex (.meth .append (.v 4) (.cons (.tup (.cons (.ix (.v 3) (.v 6)) (.cons (.v 11) .nil))) .nil))) .nil
def b_law_columns_10 : Blk := .cons (.set 5 (.op2 .mul (.v 5) (.v 9))) b_law_columns_11
def b_law_columns_9 : Blk := .cons (.ife (.cmp .le (.op2 .mul (.v 5) (.v 9)) (.ix (.lst (.cons (.int 120) (.cons (.int 10000) .nil))) (.bi .int (.cons (.v 1) .nil)))) b_law_columns_10 .nil) .nil
def b_law_columns_8 : Blk := .cons (.set 9 (.ifx (.cmp .eq (.ix (.v 11) (.int 0)) (.str "number")) (.op2 .add (.v 8) (.int 1)) (.v 9))) b_law_columns_9
def b_law_columns_7 : Blk := .cons (.set 11 (.ifx (.cmp .eq (.call n_law_dab (.cons (.v 0) (.cons (.int 2) .nil))) (.int 0)) (.tup (.cons (.str "number") (.cons (.v 7) (.cons (.op2 .add (.v 7) (.v 8)) .nil)))) (.tup (.cons (.str "word") (.cons (.bi .tuple (.cons (.comp false [("j", 12)] (.v 12) (.rng1 (.v 9)) .nil (.ix (.v 2) (.op2 .mod (.bi .int (.cons (.op2 .add (.v 10) (.v 12)) .nil)) (.int 6)))) .nil)) .nil))))) b_law_columns_8
def b_law_columns_6 : Blk := .cons (.set 10 (.call n_law_dab (.cons (.v 0) (.cons (.int 6) .nil)))) b_law_columns_7
def b_law_columns_5 : Blk := .cons (.par3 7 8 9 (.call n_law_pick (.cons (.v 0) (.cons (.lst (.cons (.int 0) (.cons (.neg (.int 3)) (.cons (.int 8) (.cons (.neg (.int 1000)) (.cons (.int 970) .nil)))))) .nil))) (.call n_law_pick (.cons (.v 0) (.cons (.lst (.cons (.int 0) (.cons (.int 1) (.cons (.int 2) (.cons (.int 30) .nil))))) .nil))) (.op2 .add (.int 1) (.call n_law_dab (.cons (.v 0) (.cons (.int 6) .nil))))) b_law_columns_6
def b_law_columns_4 : Blk := .cons (.ret (.ifx (.cmp .ne (.v 4) (.lst .nil)) (.bi .tuple (.cons (.v 4) .nil)) (.tup (.cons (.tup (.cons (.str "one") (.cons (.tup (.cons (.str "number") (.cons (.int 5) (.cons (.int 6) .nil)))) .nil))) .nil)))) .nil
def b_law_columns_3 : Blk := .cons (.for_ (.v 6) (.rng1 (.op2 .add (.int 1) (.call n_law_dab (.cons (.v 0) (.cons (.int 4) .nil))))) b_law_columns_5) b_law_columns_4
def b_law_columns_2 : Blk := .cons (.par3 3 4 5 (.lst (.cons (.str "city") (.cons (.str "age") (.cons (.str "of") (.cons (.str "word") .nil))))) (.lstM .nil) (.int 1)) b_law_columns_3
def b_law_columns : Blk := .cons (.set 2 (.call n_law_pick (.cons (.v 0) (.cons (.lst (.cons (.lst (.cons (.str "rome") (.cons (.str "oslo") (.cons (.str "bonn") (.cons (.str "lima") (.cons (.str "riga") (.cons (.str "baku") .nil))))))) (.cons (.lst (.cons (.str "a") (.cons (.str "aa") (.cons (.str "aaa") (.cons (.str "b") (.cons (.str "ab") (.cons (.str "ba") .nil))))))) (.cons (.lst (.cons (.str "zoo") (.cons (.str "abcdefgh") (.cons (.str "z") (.cons (.str "y") (.cons (.str "x") (.cons (.str "zo") .nil))))))) .nil)))) .nil)))) b_law_columns_2
theorem k_law_columns : chkB b_law_columns c_law_columns (defBody s_law_columns) = true := by decide +kernel
theorem f_law_columns : FnScope ["brush", "wide", "words", "names", "found", "many", "k", "low", "span", "size", "first", "kind", "j"] ["brush", "wide"] (defScope s_law_columns) := ⟨rfl, rfl, rfl, by decide +kernel, rfl, by decide +kernel, by decide +kernel⟩
/-! _law_values: slots ['column', 'kind'] -/
abbrev s_law_values : Stmt := top 32
def c_law_values : Ctx := ⟨["column", "kind"], (defScope s_law_values).names, none, fnm, glm, [], false⟩
def b_law_values_2 : Blk := .cons (.ret (.ifx (.cmp .eq (.ix (.v 1) (.int 0)) (.str "word")) (.bi .list (.cons (.ix (.v 1) (.int 1)) .nil)) (.rngs true (.ix (.v 1) (.int 1)) (.op2 .add (.ix (.v 1) (.int 2)) (.int 1))))) .nil
def b_law_values : Blk := .cons (.set 1 (.ix (.v 0) (.int 1))) b_law_values_2
theorem k_law_values : chkB b_law_values c_law_values (defBody s_law_values) = true := by decide +kernel
theorem f_law_values : FnScope ["column", "kind"] ["column"] (defScope s_law_values) := ⟨rfl, rfl, rfl, by decide +kernel, rfl, by decide +kernel, by decide +kernel⟩
/-! _law_row: slots ['brush', 'columns', 'column'] -/
abbrev s_law_row : Stmt := top 33
def c_law_row : Ctx := ⟨["brush", "columns", "column"], (defScope s_law_row).names, none, fnm, glm, [], false⟩
def b_law_row : Blk := .cons (.ret (.bi .tuple (.cons (.comp false [("column", 2)] (.v 2) (.ex (.v 1)) .nil (.call n_law_pick (.cons (.v 0) (.cons (.call n_law_values (.cons (.v 2) .nil)) .nil)))) .nil))) .nil
theorem k_law_row : chkB b_law_row c_law_row (defBody s_law_row) = true := by decide +kernel
theorem f_law_row : FnScope ["brush", "columns", "column"] ["brush", "columns"] (defScope s_law_row) := ⟨rfl, rfl, rfl, by decide +kernel, rfl, by decide +kernel, by decide +kernel⟩
/-! _law_table: slots ['brush', 'columns', 'most', 'rows', 'k'] -/
abbrev s_law_table : Stmt := top 34
def c_law_table : Ctx := ⟨["brush", "columns", "most", "rows", "k"], (defScope s_law_table).names, none, fnm, glm, [], false⟩
def b_law_table_4 : Blk := .cons (.ex (.meth .append (.v 3) (.cons (.ifx (.band (.cmp .ne (.v 3) (.lst .nil)) (.cmp .eq (.call n_law_dab (.cons (.v 0) (.cons (.int 4) .nil))) (.int 0))) (.call n_law_pick (.cons (.v 0) (.cons (.v 3) .nil))) (.call n_law_row (.cons (.v 0) (.cons (.v 1) .nil)))) .nil))) .nil
def b_law_table_3 : Blk := .cons (.ret (.tup (.cons (.v 1) (.cons (.bi .tuple (.cons (.v 3) .nil)) .nil)))) .nil
def b_law_table_2 : Blk := .cons (.for_ (.v 4) (.rng1 (.call n_law_dab (.cons (.v 0) (.cons (.op2 .add (.v 2) (.int 1)) .nil)))) b_law_table_4) b_law_table_3
def b_law_table : Blk := .cons (.set 3 (.lstM .nil)) b_law_table_2
theorem k_law_table : chkB b_law_table c_law_table (defBody s_law_table) = true := by decide +kernel
theorem f_law_table : FnScope ["brush", "columns", "most", "rows", "k"] ["brush", "columns", "most"] (defScope s_law_table) := ⟨rfl, rfl, rfl, by decide +kernel, rfl, by decide +kernel, by decide +kernel⟩
/-! _law_int: slots ['value', 'low', 'high'] -/
abbrev s_law_int : Stmt := top 35
def c_law_int : Ctx := ⟨["value", "low", "high"], (defScope s_law_int).names, none, fnm, glm, [], false⟩
def b_law_int : Blk := .cons (.ret (.band (.isi (.v 0) .int) (.band (.bnot (.isi (.v 0) .bool)) (.chain .le .le (.v 1) (.v 0) (.v 2))))) .nil
theorem k_law_int : chkB b_law_int c_law_int (defBody s_law_int) = true := by decide +kernel
theorem f_law_int : FnScope ["value", "low", "high"] ["value", "low", "high"] (defScope s_law_int) := ⟨rfl, rfl, rfl, by decide +kernel, rfl, by decide +kernel, by decide +kernel⟩
/-! _law_bent: slots ['brush', 'value', 'at', 'way', 'words', 'odd'] -/
abbrev s_law_bent : Stmt := top 36
def c_law_bent : Ctx := ⟨["brush", "value", "at", "way", "words", "odd"], (defScope s_law_bent).names, none, fnm, glm, [], false⟩
def b_law_bent_13 : Blk := .cons (.ret (.op2 .add (.slice (.v 1) .none (.some (.v 2))) (.slice (.v 1) (.some (.op2 .add (.v 2) (.int 1))) .none))) .nil
def b_law_bent_14 : Blk := .cons (.ret (.op2 .add (.op2 .add (.slice (.v 1) .none (.some (.v 2))) (.slice (.v 1) (.some (.v 2)) (.some (.op2 .add (.v 2) (.int 1))))) (.slice (.v 1) (.some (.v 2)) .none))) .nil
def b_law_bent_15 : Blk := .cons (.ret (.ix (.lst (.cons (.rev (.v 1)) (.cons (.bi .list (.cons (.v 1) .nil)) (.cons (.op2 .add (.v 1) (.v 1)) .nil)))) (.call n_law_dab (.cons (.v 0) (.cons (.int 3) .nil))))) .nil
def b_law_bent_12 : Blk := .cons (.ret (.op2 .add (.op2 .add (.slice (.v 1) .none (.some (.v 2))) (.tup (.cons (.call n_law_bent (.cons (.v 0) (.cons (.ix (.v 1) (.v 2)) .nil))) .nil))) (.slice (.v 1) (.some (.op2 .add (.v 2) (.int 1))) .none))) .nil
def b_law_bent_11 : Blk := .cons (.ife (.cmp .eq (.v 3) (.int 2)) b_law_bent_15 .nil) b_law_bent_12
def b_law_bent_10 : Blk := .cons (.ife (.cmp .eq (.v 3) (.int 1)) b_law_bent_14 .nil) b_law_bent_11
def b_law_bent_9 : Blk := .cons (.ife (.cmp .eq (.v 3) (.int 0)) b_law_bent_13 .nil) b_law_bent_10
def b_law_bent_8 : Blk := .cons (.par 2 3 (.call n_law_dab (.cons (.v 0) (.cons (.bi .len (.cons (.v 1) .nil)) .nil))) (.call n_law_dab (.cons (.v 0) (.cons (.int 14) .nil)))) b_law_bent_9
def b_law_bent_16 : Blk := .cons (.ret (.call n_law_pick (.cons (.v 0) (.cons (.lst (.cons (.op2 .add (.v 1) (.int 1)) (.cons (.op2 .sub (.v 1) (.int 1)) (.cons (.op2 .sub (.int 0) (.v 1)) (.cons (.op2 .mul (.v 1) (.int 2)) (.cons (.int 0) (.cons (.int 1) (.cons (.int 20) (.cons (.int 21) (.cons (.neg (.int 21)) (.cons (.int 100) (.cons (.int 101) (.cons (.int 1000) (.cons (.int 1001) (.cons (.neg (.int 1001)) (.cons (.op2 .add (.v 1) (.int 31)) (.cons (.op2 .pow (.int 10) (.int 40)) .nil))))))))))))))))) .nil)))) .nil
def b_law_bent_18 : Blk := .cons (.ret (.op2 .add (.op2 .add (.slice (.v 1) .none (.some (.v 2))) (.call n_law_pick (.cons (.v 0) (.cons (.lst (.cons (.str "") (.cons (.str "A") (.cons (.str "z") (.cons (.str "1") (.cons (.str " ") (.cons (.str "aa") (.cons (.str "
") (.cons (.str "~") .nil))))))))) .nil)))) (.slice (.v 1) (.some (.op2 .add (.v 2) (.call n_law_dab (.cons (.v 0) (.cons (.int 2) .nil))))) .none))) .nil
def b_law_bent_17 : Blk := .cons (.set 2 (.call n_law_dab (.cons (.v 0) (.cons (.bi .len (.cons (.v 1) .nil)) .nil)))) b_law_bent_18
def b_law_bent_7 : Blk := .cons (.ret (.call n_law_pick (.cons (.v 0) (.cons (.v 5) .nil)))) .nil
def b_law_bent_6 : Blk := .cons (.set 5 (.op2 .add (.v 4) (.lst (.cons .non (.cons (.bl true) (.cons (.bl false) (.cons (.int 0) (.cons (.int 1) (.cons (.neg (.int 1)) (.cons (.tup .nil) (.cons (.lst .nil) (.cons (.tup (.cons (.str "one") .nil)) (.cons (.tup (.cons (.str "number") (.cons (.int 1) .nil))) (.cons (.tup (.cons (.str "of") (.cons (.int 0) .nil))) (.cons (.tup (.cons (.str "of") (.cons (.int 1) .nil))) (.cons (.tup (.cons (.str "word") (.cons (.int 0) .nil))) (.cons (.tup (.cons (.str "word") (.cons (.int 1) .nil))) (.cons (.tup (.cons (.str "is") (.cons (.int 0) (.cons (.str "rome") .nil)))) (.cons (.lst (.cons (.v 1) .nil)) (.cons (.tup (.cons (.v 1) .nil)) .nil)))))))))))))))))))) b_law_bent_7
def b_law_bent_5 : Blk := .cons (.set 4 (.op2 .add (.v 4) (.lst (.cons (.str "each") (.cons (.str "count") (.cons (.str "sum") (.cons (.str "least") (.cons (.str "most") (.cons (.str "mean") (.cons (.str "abcdefghi") (.cons (.str "rome") .nil))))))))))) b_law_bent_6
def b_law_bent_4 : Blk := .cons (.set 4 (.lst (.cons (.str "") (.cons (.str "a") (.cons (.str "one") (.cons (.str "number") (.cons (.str "of") (.cons (.str "add") (.cons (.str "times") (.cons (.str "bin") (.cons (.str "is") (.cons (.str "below") (.cons (.str "same") (.cons (.str "not") (.cons (.str "and") (.cons (.str "or") (.cons (.str "word") (.cons (.str "point") (.cons (.str "bar") (.cons (.str "line") .nil)))))))))))))))))))) b_law_bent_5
def b_law_bent_3 : Blk := .cons (.ife (.band (.isi (.v 1) .str) (.band (.cmp .ne (.v 1) (.str "")) (.cmp .eq (.call n_law_dab (.cons (.v 0) (.cons (.int 2) .nil))) (.int 0)))) b_law_bent_17 .nil) b_law_bent_4
def b_law_bent_2 : Blk := .cons (.ife (.band (.isi (.v 1) .int) (.band (.bnot (.isi (.v 1) .bool)) (.cmp .gt (.call n_law_dab (.cons (.v 0) (.cons (.int 4) .nil))) (.int 0)))) b_law_bent_16 .nil) b_law_bent_3
def b_law_bent : Blk := .cons (.ife (.band (.isi (.v 1) .tuple) (.band (.cmp .ne (.v 1) (.tup .nil)) (.cmp .gt (.call n_law_dab (.cons (.v 0) (.cons (.int 7) .nil))) (.int 0)))) b_law_bent_8 .nil) b_law_bent_2
theorem k_law_bent : chkB b_law_bent c_law_bent (defBody s_law_bent) = true := by decide +kernel
theorem f_law_bent : FnScope ["brush", "value", "at", "way", "words", "odd"] ["brush", "value"] (defScope s_law_bent) := ⟨rfl, rfl, rfl, by decide +kernel, rfl, by decide +kernel, by decide +kernel⟩
/-! _law_is_row: slots ['columns', 'value', 'k', 'kind', 'right'] -/
abbrev s_law_is_row : Stmt := top 37
def c_law_is_row : Ctx := ⟨["columns", "value", "k", "kind", "right"], (defScope s_law_is_row).names, none, fnm, glm, [], false⟩
def b_law_is_row_4 : Blk := .cons (.ret (.bl false)) .nil
def b_law_is_row_8 : Blk := .cons (.ret (.bl false)) .nil
def b_law_is_row_7 : Blk := .cons (.ife (.bnot (.v 4)) b_law_is_row_8 .nil) .nil
def b_law_is_row_6 : Blk := .cons (.set 4 (.ifx (.cmp .eq (.ix (.v 3) (.int 0)) (.str "word")) (.band (.isi (.ix (.v 1) (.v 2)) .str) (.cmp .isin (.ix (.v 1) (.v 2)) (.ix (.v 3) (.int 1)))) (.call n_law_int (.cons (.ix (.v 1) (.v 2)) (.cons (.ix (.v 3) (.int 1)) (.cons (.ix (.v 3) (.int 2)) .nil)))))) b_law_is_row_7
def b_law_is_row_5 : Blk := .cons (.set 3 (.ix (.ix (.v 0) (.v 2)) (.int 1))) b_law_is_row_6
def b_law_is_row_3 : Blk := .cons (.ret (.bl true)) .nil
def b_law_is_row_2 : Blk := .cons (.for_ (.v 2) (.rng1 (.bi .len (.cons (.v 0) .nil))) b_law_is_row_5) b_law_is_row_3
def b_law_is_row : Blk := .cons (.ife (.bor (.bnot (.isi (.v 1) .tuple)) (.cmp .ne (.bi .len (.cons (.v 1) .nil)) (.bi .len (.cons (.v 0) .nil)))) b_law_is_row_4 .nil) b_law_is_row_2
theorem k_law_is_row : chkB b_law_is_row c_law_is_row (defBody s_law_is_row) = true := by decide +kernel
theorem f_law_is_row : FnScope ["columns", "value", "k", "kind", "right"] ["columns", "value"] (defScope s_law_is_row) := ⟨rfl, rfl, rfl, by decide +kernel, rfl, by decide +kernel, by decide +kernel⟩
/-! _law_fault: slots ['columns', 'value', 'wrong', 'k'] -/
abbrev s_law_fault : Stmt := top 38
def c_law_fault : Ctx := ⟨["columns", "value", "wrong", "k"], (defScope s_law_fault).names, none, fnm, glm, [], false⟩
def b_law_fault_4 : Blk := .cons (.ret (.int 0)) .nil
def b_law_fault_3 : Blk := .cons (.ret (.ifx (.cmp .ne (.v 2) (.lst .nil)) (.ix (.v 2) (.int 0)) .non)) .nil
def b_law_fault_2 : Blk := .cons (.set 2 (.comp false [("k", 3)] (.v 3) (.rng1 (.bi .len (.cons (.ix (.v 1) (.int 1)) .nil))) (.cons (.bor (.cmp .eq (.v 3) (.int 40)) (.bnot (.call n_law_is_row (.cons (.v 0) (.cons (.ix (.ix (.v 1) (.int 1)) (.v 3)) .nil))))) .nil) (.v 3))) b_law_fault_3
def b_law_fault : Blk := .cons (.ife (.bor (.bnot (.isi (.v 1) .tuple)) (.bor (.cmp .ne (.bi .len (.cons (.v 1) .nil)) (.int 2)) (.bor (.cmp .ne (.ix (.v 1) (.int 0)) (.v 0)) (.bnot (.isi (.ix (.v 1) (.int 1)) .tuple))))) b_law_fault_4 .nil) b_law_fault_2
theorem k_law_fault : chkB b_law_fault c_law_fault (defBody s_law_fault) = true := by decide +kernel
theorem f_law_fault : FnScope ["columns", "value", "wrong", "k"] ["columns", "value"] (defScope s_law_fault) := ⟨rfl, rfl, rfl, by decide +kernel, rfl, by decide +kernel, by decide +kernel⟩
/-! _law_wrong_row: slots ['brush', 'columns', 'row', 'at', 'value', 'odd'] -/
abbrev s_law_wrong_row : Stmt := top 39
def c_law_wrong_row : Ctx := ⟨["brush", "columns", "row", "at", "value", "odd"], (defScope s_law_wrong_row).names, none, fnm, glm, [], false⟩
def b_law_wrong_row_6 : Blk := .cons (.set 5 (.op2 .add (.v 5) (.lst (.cons (.op2 .sub (.ix (.ix (.ix (.v 1) (.v 3)) (.int 1)) (.int 1)) (.int 1)) (.cons (.op2 .add (.ix (.ix (.ix (.v 1) (.v 3)) (.int 1)) (.int 2)) (.int 1)) (.cons (.bi .str (.cons (.v 4) .nil)) .nil)))))) .nil
def b_law_wrong_row_5 : Blk := .cons (.ret (.call n_law_pick (.cons (.v 0) (.cons (.lst (.cons (.op2 .add (.op2 .add (.slice (.v 2) .none (.some (.v 3))) (.tup (.cons (.call n_law_pick (.cons (.v 0) (.cons (.v 5) .nil))) .nil))) (.slice (.v 2) (.some (.op2 .add (.v 3) (.int 1))) .none)) (.cons (.op2 .add (.slice (.v 2) .none (.some (.v 3))) (.slice (.v 2) (.some (.op2 .add (.v 3) (.int 1))) .none)) (.cons (.op2 .add (.v 2) (.tup (.cons (.v 4) .nil))) (.cons (.bi .list (.cons (.v 2) .nil)) (.cons .non (.cons (.rev (.v 2)) (.cons (.call n_law_bent (.cons (.v 0) (.cons (.v 2) .nil))) .nil)))))))) .nil)))) .nil
def b_law_wrong_row_4 : Blk := .cons (.ife (.isi (.v 4) .int) b_law_wrong_row_6 .nil) b_law_wrong_row_5
def b_law_wrong_row_3 : Blk := .cons (.set 5 (.lst (.cons .non (.cons (.bl true) (.cons (.str "") (.cons (.str "zzzz") (.cons (.op2 .pow (.int 10) (.int 30)) (.cons (.tup (.cons (.v 4) .nil)) (.cons (.lst (.cons (.v 4) .nil)) (.cons (.int 0) .nil)))))))))) b_law_wrong_row_4
def b_law_wrong_row_2 : Blk := .cons (.set 4 (.ix (.v 2) (.v 3))) b_law_wrong_row_3
def b_law_wrong_row : Blk := .cons (.set 3 (.call n_law_dab (.cons (.v 0) (.cons (.bi .len (.cons (.v 2) .nil)) .nil)))) b_law_wrong_row_2
theorem k_law_wrong_row : chkB b_law_wrong_row c_law_wrong_row (defBody s_law_wrong_row) = true := by decide +kernel
theorem f_law_wrong_row : FnScope ["brush", "columns", "row", "at", "value", "odd"] ["brush", "columns", "row"] (defScope s_law_wrong_row) := ⟨rfl, rfl, rfl, by decide +kernel, rfl, by decide +kernel, by decide +kernel⟩
/-! law: slots ['script', 'brush', 'turn', 'columns', 'k', 'row', 'value', 'due', 'table', 'rows', 'at', 'great', 'j', 'spoilt', 'some', 'kept'] -/
abbrev s_law : Stmt := top 40
def c_law : Ctx := ⟨["script", "brush", "turn", "columns", "k", "row", "value", "due", "table", "rows", "at", "great", "j", "spoilt", "some", "kept"], (defScope s_law).names, none, fnm, glm, [(n_is_row, 0, ["value", "columns"], [1, 0]), (n_is_table, 0, ["value"], [0]), (n_table_fault, 0, ["value"], [0])], true⟩
def b_law_18 : Blk := .cons (.ret (.bl false)) .nil
def b_law_17 : Blk := .cons (.ife (.bnot (.call n_law_same (.cons (.lst (.cons (.call n_is_row (.cons (.v 3) (.cons (.v 6) .nil))) (.cons (.callk n_is_row .nil (.cons (.v 6) (.cons (.v 3) .nil)) [1, 0]) .nil))) (.cons (.lst (.cons (.v 7) (.cons (.v 7) .nil))) .nil)))) b_law_18 .nil) .nil
def b_law_16 : Blk := .cons (.set 7 (.call n_law_is_row (.cons (.v 3) (.cons (.v 6) .nil)))) b_law_17
def b_law_15 : Blk := .cons (.for_ (.v 6) (.ex (.lst (.cons (.v 5) (.cons (.call n_law_wrong_row (.cons (.v 1) (.cons (.v 3) (.cons (.v 5) .nil)))) (.cons (.call n_law_wrong_row (.cons (.v 1) (.cons (.v 3) (.cons (.v 5) .nil)))) .nil))))) b_law_16) .nil
def b_law_14 : Blk := .cons (.set 5 (.call n_law_row (.cons (.v 1) (.cons (.v 3) .nil)))) b_law_15
def b_law_21 : Blk := .cons (.ret (.bl false)) .nil
def b_law_20 : Blk := .cons (.ife (.bnot (.call n_law_same (.cons (.lst (.cons (.call n_table_fault (.cons (.v 6) .nil)) (.cons (.callk n_table_fault .nil (.cons (.v 6) .nil) [0]) (.cons (.call n_is_table (.cons (.v 6) .nil)) (.cons (.callk n_is_table .nil (.cons (.v 6) .nil) [0]) .nil))))) (.cons (.lst (.cons (.v 7) (.cons (.v 7) (.cons (.isN (.v 7)) (.cons (.isN (.v 7)) .nil))))) .nil)))) b_law_21 .nil) .nil
def b_law_19 : Blk := .cons (.set 7 (.call n_law_fault (.cons (.v 3) (.cons (.v 6) .nil)))) b_law_20
def b_law_22 : Blk := .cons (.ret (.bl false)) .nil
def b_law_13 : Blk := .cons (.ife (.bor (.cmp .ne (.bi .repr (.cons (.v 14) .nil)) (.v 15)) (.cmp .ne (.call n_table_fault (.cons (.tup (.cons (.op2 .add (.v 3) (.slice (.v 3) .none (.some (.int 1)))) (.cons (.tup .nil) .nil))) .nil)) (.int 0))) b_law_22 .nil) .nil
def b_law_12 : Blk := .cons (.for_ (.v 6) (.ex (.v 14)) b_law_19) b_law_13
def b_law_11 : Blk := .cons (.set 15 (.bi .repr (.cons (.v 14) .nil))) b_law_12
def b_law_10 : Blk := .cons (.set 14 (.lst (.cons (.v 8) (.cons (.v 11) (.cons (.v 13) (.cons (.tup (.cons (.v 3) (.cons (.bi .list (.cons (.v 9) .nil)) .nil))) (.cons (.bi .list (.cons (.v 8) .nil)) (.cons (.tup (.cons (.v 3) .nil)) (.cons (.tup (.cons (.v 3) (.cons (.v 9) (.cons (.v 9) .nil)))) (.cons .non (.cons (.v 9) (.cons (.tup (.cons (.v 3) (.cons (.op2 .add (.ix (.v 11) (.int 1)) (.ix (.v 13) (.int 1))) .nil))) .nil)))))))))))) b_law_11
def b_law_9 : Blk := .cons (.set 13 (.tup (.cons (.v 3) (.cons (.op2 .add (.op2 .add (.slice (.v 9) .none (.some (.v 10))) (.tup (.cons (.call n_law_wrong_row (.cons (.v 1) (.cons (.v 3) (.cons (.call n_law_row (.cons (.v 1) (.cons (.v 3) .nil))) .nil)))) .nil))) (.slice (.v 9) (.some (.v 10)) .none)) .nil)))) b_law_10
def b_law_8 : Blk := .cons (.set 11 (.tup (.cons (.v 3) (.cons (.bi .tuple (.cons (.comp false [("j", 12)] (.v 12) (.rng1 (.op2 .add (.int 39) (.call n_law_dab (.cons (.v 1) (.cons (.int 4) .nil))))) .nil (.call n_law_row (.cons (.v 1) (.cons (.v 3) .nil)))) .nil)) .nil)))) b_law_9
def b_law_7 : Blk := .cons (.par 9 10 (.ix (.v 8) (.int 1)) (.call n_law_dab (.cons (.v 1) (.cons (.op2 .add (.bi .len (.cons (.ix (.v 8) (.int 1)) .nil)) (.int 1)) .nil)))) b_law_8
def b_law_6 : Blk := .cons (.set 8 (.call n_law_table (.cons (.v 1) (.cons (.v 3) (.cons (.ix (.lst (.cons (.int 3) (.cons (.int 12) (.cons (.int 40) .nil)))) (.call n_law_dab (.cons (.v 1) (.cons (.int 3) .nil)))) .nil))))) b_law_7
def b_law_5 : Blk := .cons (.for_ (.v 4) (.rng1 (.int 6)) b_law_14) b_law_6
def b_law_4 : Blk := .cons (.set 3 (.call n_law_columns (.cons (.v 1) (.cons (.bl false) .nil)))) b_law_5
def b_law_3 : Blk := .cons (.ret (.bl true)) .nil
def b_law_2 : Blk := .cons (.for_ (.v 2) (.rng1 (.op2 .add (.int 3) (.bi .min2 (.cons (.int 5) (.cons (.bi .len (.cons (.v 0) .nil)) .nil))))) b_law_4) b_law_3
def b_law : Blk := .cons (.set 1 (.call n_law_brush (.cons (.v 0) .nil))) b_law_2
theorem k_law : chkB b_law c_law (defBody s_law) = true := by decide +kernel
theorem f_law : FnScope ["script", "brush", "turn", "columns", "k", "row", "value", "due", "table", "rows", "at", "great", "j", "spoilt", "some", "kept"] ["script"] (defScope s_law) := ⟨rfl, rfl, rfl, by decide +kernel, rfl, by decide +kernel, by decide +kernel⟩
/-! base: texts, plain data, pure defs -/
theorem ofString_inj {a b : String} : (Str.ofString a = Str.ofString b) = (a = b) := by
  apply propext
  refine ⟨fun h => ?_, fun h => by rw [h]⟩
  rw [Str.ofString_eq_toList, Str.ofString_eq_toList] at h
  have h3 : a.toList.map Char.toNat = b.toList.map Char.toNat := by
    have := congrArg (fun x : Str => x.cps.toList) h
    simpa using this
  exact String.toList_inj.mp ((List.map_inj_right fun x y e => Char.toNat_inj.mp e).mp h3)
theorem ok_lit {s : String} : PyData.strOk (Str.ofString s) = true := by
  rw [Str.ofString_eq_toList]
  unfold PyData.strOk
  rw [Array.all_eq_true']
  intro c hc
  have hc : c ∈ s.toList.map Char.toNat := by simpa using hc
  obtain ⟨x, _, rfl⟩ := List.mem_map.mp hc
  have v := x.valid
  have l : x.val.toNat < 0x110000 := by
    rcases v with v | v <;> omega
  exact decide_eq_true l
theorem eq_strG {x y : Str} {h : Hm} : eqD (.str x) (.str y) h = .guard (PyData.strOk x && PyData.strOk y) (.ok (decide (x = y)) h) := by
  have e : ∀ x : Str, SeqAt.shaped (.str x) = PyData.strOk x := fun x => by simp [SeqAt.shaped, PyData.canLay0, PyData.depth]
  have e2 : PyData.eqv (.str x) (.str y) = decide (x = y) := by
    show (x == y) = _
    rw [Bool.eq_iff_iff]
    simp
  unfold eqD
  show (Res.guard (SeqAt.shaped (.str x) && SeqAt.shaped (.str y)) (.ok (PyData.eqv (.str x) (.str y)) h)) = _
  rw [e, e, e2]
theorem eqFD_str {a b : Str} : eqFD (.str a) (.str b) = decide (a = b) := by
  show (a == b) = _
  rw [Bool.eq_iff_iff]
  simp
theorem flatD_str {a : Str} : flatD (.str a) = true := rfl
theorem flatD_int {a : Int} : flatD (.int a) = true := rfl
theorem guard_decide {α : Type} {p : Prop} [Decidable p] {r : Res α} (h : p) : Res.guard (decide p) r = r := by rw [decide_eq_true h]; rfl
/-- a tuple that is not empty -/
theorem ne_nilT {k : Nat} {x : D} {xs : List D} {h : Hm} (hk : k ≤ 64) (p : plainD k (.tup (x :: xs)) = true) : eqD (.tup (x :: xs)) (.tup []) h = .ok false h := by
  obtain ⟨q, a1, a2, a3, _⟩ := plain_py k _ p
  obtain ⟨ps, rfl⟩ : ∃ ps, q = .tuple ps := by
    have a1 : (toPys (x :: xs)).map PyData.tuple = some q := a1
    cases e : toPys (x :: xs) with
    | none => rw [e] at a1; cases a1
    | some ps => rw [e] at a1; cases a1; exact ⟨_, rfl⟩
  have hp : ps ≠ [] := by
    rintro rfl
    have a1 : (toPys (x :: xs)).map PyData.tuple = some (.tuple []) := a1
    cases e : toPys (x :: xs) with
    | none => rw [e] at a1; cases a1
    | some ps =>
      rw [e] at a1
      cases a1
      unfold toPys at e
      split at e <;> cases e
  unfold eqD
  rw [toPyH_of a1, show toPyH h (.tup []) = some (.tuple []) from rfl]
  have s1 : SeqAt.shaped (.tuple ps) = true := by
    unfold SeqAt.shaped
    rw [a2, decide_eq_true (show (PyData.tuple ps).depth ≤ 64 by omega)]
    rfl
  dsimp only
  rw [s1]
  cases ps with
  | nil => exact absurd rfl hp
  | cons p ps => rfl
/-- the common end -/
theorem fz_back {h t : Hm} {d r : D} {h2 : Hm} {T : D → Hm → Prop} (e : h2 = h ++ t) (b : belowD h.length d = true) (k : T d h) : ∃ r h', Fz h d h2 r h' ∧ T r h' := by
  subst e
  exact ⟨d, h, Fz.back b, k⟩
theorem fz_same {h : Hm} {d : D} {T : D → Hm → Prop} (k : T d h) : ∃ r h', Fz h d h r h' ∧ T r h' := ⟨d, h, .refl, k⟩

/-- a pure def: its answer is the one that P tells -/
def TR (P : List D → D → Prop) : Tell := fun ds h r h' => (∀ v, P ds v → r = v) ∧ h' = h
abbrev PoR (h : Hm) (v : D) : Po := { nx := fun _ h2 => Fz h .non h2 v h, rt := fun d h2 => Fz h d h2 v h }
theorem den_TR {Γ : Gam} {N : List Str} {np : Nat} {b : Blk} {P : List D → D → Prop} {ds : List D} {h : Hm} {v : D} (hl : ds.length = np) (u : ∀ v', P ds v' → v' = v) (p : P ds v) (w : wpB Γ b (startD N ds) h (PoR h v)) : denT Γ N np b (TR P) ds h = .ok v h := by
  obtain ⟨r, h', e, t1, t2⟩ := denT_ok (T := TR P) hl (wpB_mono Γ b _ _ _ (PoT (TR P) ds h) ⟨fun σ h2 z => ⟨v, h, z, fun v' p' => (u v' p').symm, rfl⟩, fun d h2 z => ⟨v, h, z, fun v' p' => (u v' p').symm, rfl⟩, fun _ _ z => False.elim z, fun _ _ z => False.elim z⟩ w)
  rw [e, t1 v p, t2]
theorem in1 {a b : D} (e : [a] = [b]) : a = b := by injection e
theorem in2 {a b c d : D} (e : [a, b] = [c, d]) : a = c ∧ b = d := by
  injection e with e1 e2
  exact ⟨e1, in1 e2⟩
theorem in3 {a b c d e f : D} (z : [a, b, c] = [d, e, f]) : a = d ∧ b = e ∧ c = f := by
  injection z with e1 e2
  exact ⟨e1, in2 e2⟩
theorem in4 {a b c d a' b' c' d' : D} (z : [a, b, c, d] = [a', b', c', d']) : a = a' ∧ b = b' ∧ c = c' ∧ d = d' := by
  injection z with e1 e2
  exact ⟨e1, in3 e2⟩
/-- a value that isinstance may be asked of -/
def opn : D → Bool
  | .ref _ => false
  | .dict _ _ => false
  | .fn _ _ => false
  | .wtup _ => false
  | _ => true
theorem opn_open {d : D} {h : Hm} (o : opn d = true) : openD h d = true := by cases d <;> first | rfl | exact Bool.noConfusion o
/-! comprehensions -/
theorem compR_eq {Γ : Gam} {own : List (Str × Nat)} {tg : Tg} {cond : Exs} {elt : Ex} {σ : Sg} {src : List D} {h1 : Hm} (g : D → Option D)
    (hg : ∀ x ∈ src, ∀ t, ∃ σ', asgD tg x (wipeD σ (own.map (·.2))) = some σ' ∧ (match g x with
      | some y => evTs Γ cond σ' (h1 ++ [t]) = .ok true (h1 ++ [t]) ∧ evE Γ elt σ' (h1 ++ [t]) = .ok y (h1 ++ [t])
      | none => evTs Γ cond σ' (h1 ++ [t]) = .ok false (h1 ++ [t])))
    (hl : src.length ≤ LIM) (hb : ∀ x ∈ src, ∀ y, g x = some y → belowD h1.length y = true) : compR Γ false own tg cond elt σ src h1 = .ok (.lst (src.filterMap g)) h1 := by
  have b : belowDs h1.length (src.filterMap g) = true := belowDs_of fun y hy => by
    obtain ⟨x, hx, e⟩ := List.mem_filterMap.mp hy
    exact hb x hx y e
  unfold compR
  rw [comp_pure (g := g) (fun x hx t => ?_) (by simpa using hl)]
  · rw [Res.bind_ok, show listOf? (h1 ++ [MO.lst ([] ++ src.filterMap g)]) h1.length = some ([] ++ src.filterMap g) from listOf_new]
    dsimp only
    rw [List.nil_append, endC_pure b]
  · obtain ⟨σ', a1, a2⟩ := hg x hx t
    cases k : g x with
    | none =>
      rw [k] at a2
      exact stepC_none a1 a2
    | some y =>
      rw [k] at a2
      exact stepC_some a1 a2.1 a2.2
theorem compR_map {Γ : Gam} {own : List (Str × Nat)} {tg : Tg} {elt : Ex} {σ : Sg} {src : List D} {h1 : Hm} (g : D → D)
    (hg : ∀ x ∈ src, ∀ t, ∃ σ', asgD tg x (wipeD σ (own.map (·.2))) = some σ' ∧ evE Γ elt σ' (h1 ++ [t]) = .ok (g x) (h1 ++ [t]))
    (hl : src.length ≤ LIM) (hb : ∀ x ∈ src, belowD h1.length (g x) = true) : compR Γ false own tg .nil elt σ src h1 = .ok (.lst (src.map g)) h1 := by
  rw [compR_eq (fun x => some (g x)) (fun x hx t => ?_) hl (fun x hx y e => by cases e; exact hb x hx)]
  · rw [show (fun x => some (g x)) = some ∘ g from rfl, List.filterMap_eq_map]
  · obtain ⟨σ', a, b⟩ := hg x hx t
    exact ⟨σ', a, rfl, b⟩
theorem comp_enc {α : Type} {f : D → Hm → Res (Option D)} {enc : α → D} {val : α → Option D} {h : Hm} : ∀ {xs : List α} {acc : List D}, (∀ a ∈ xs, ∀ t, f (enc a) (h ++ [t]) = .ok (val a) (h ++ [t])) → acc.length + xs.length ≤ LIM →
    compLoop f h.length (xs.map enc) (h ++ [MO.lst acc]) = .ok () (h ++ [MO.lst (acc ++ xs.filterMap val)])
  | [], acc, _, _ => by simp [compLoop]
  | x :: xs, acc, hf, hl => by
    have e1 := hf x List.mem_cons_self (.lst acc)
    have hl' : acc.length + (xs.length + 1) ≤ LIM := hl
    rw [List.map_cons]
    unfold compLoop
    rw [e1]
    cases k : val x with
    | none =>
      rw [List.filterMap_cons_none k]
      exact comp_enc (fun y hy => hf y (List.mem_cons_of_mem _ hy)) (by omega)
    | some y =>
      rw [Res.bind_ok]
      dsimp only
      rw [show listOf? (h ++ [MO.lst acc]) h.length = some acc from listOf_new]
      dsimp only
      have e4 : (h ++ [MO.lst acc]).set h.length (.lst (acc ++ [y])) = h ++ [MO.lst (acc ++ [y])] := by
        rw [List.set_append_right _ _ (Nat.le_refl _)]
        simp
      rw [decide_eq_true (show acc.length < LIM by omega), Res.guard_true, e4, comp_enc (fun y hy => hf y (List.mem_cons_of_mem _ hy)) (by rw [List.length_append]; simp; omega), List.filterMap_cons_some k, List.append_assoc]
      rfl
/-- [elt for tg in xs if cond], the items told by things of a type -/
theorem compR_encF {α : Type} {Γ : Gam} {own : List (Str × Nat)} {tg : Tg} {cond : Exs} {elt : Ex} {σ : Sg} {h1 : Hm} (xs : List α) (enc : α → D) (val : α → Option D)
    (hg : ∀ x ∈ xs, ∀ t, ∃ σ', asgD tg (enc x) (wipeD σ (own.map (·.2))) = some σ' ∧ (match val x with
      | some y => evTs Γ cond σ' (h1 ++ [t]) = .ok true (h1 ++ [t]) ∧ evE Γ elt σ' (h1 ++ [t]) = .ok y (h1 ++ [t])
      | none => evTs Γ cond σ' (h1 ++ [t]) = .ok false (h1 ++ [t])))
    (hl : xs.length ≤ 1000000) (hb : ∀ x ∈ xs, ∀ y, val x = some y → belowD h1.length y = true) : compR Γ false own tg cond elt σ (xs.map enc) h1 = .ok (.lst (xs.filterMap val)) h1 := by
  have b : belowDs h1.length (xs.filterMap val) = true := belowDs_of fun y hy => by
    obtain ⟨x, hx, e⟩ := List.mem_filterMap.mp hy
    exact hb x hx y e
  unfold compR
  rw [comp_enc (val := val) (fun x hx t => ?_) (Nat.le_trans (by simpa using hl) (by decide : 1000000 ≤ LIM))]
  · rw [Res.bind_ok, show listOf? (h1 ++ [MO.lst ([] ++ xs.filterMap val)]) h1.length = some ([] ++ xs.filterMap val) from listOf_new]
    dsimp only
    rw [List.nil_append, endC_pure b]
  · obtain ⟨σ', a1, a2⟩ := hg x hx t
    cases k : val x with
    | none =>
      rw [k] at a2
      exact stepC_none a1 a2
    | some y =>
      rw [k] at a2
      exact stepC_some a1 a2.1 a2.2
theorem compR_enc {α : Type} {Γ : Gam} {own : List (Str × Nat)} {tg : Tg} {elt : Ex} {σ : Sg} {h1 : Hm} (xs : List α) (enc : α → D) (val : α → D)
    (hg : ∀ x ∈ xs, ∀ t, ∃ σ', asgD tg (enc x) (wipeD σ (own.map (·.2))) = some σ' ∧ evE Γ elt σ' (h1 ++ [t]) = .ok (val x) (h1 ++ [t]))
    (hl : xs.length ≤ 1000000) (hb : ∀ x ∈ xs, belowD h1.length (val x) = true) : compR Γ false own tg .nil elt σ (xs.map enc) h1 = .ok (.lst (xs.map val)) h1 := by
  rw [compR_encF xs enc (fun x => some (val x)) (fun x hx t => ?_) hl (fun x hx y e => by cases e; exact hb x hx)]
  · rw [show (fun x => some (val x)) = some ∘ val from rfl, List.filterMap_eq_map]
  · obtain ⟨σ', a, b⟩ := hg x hx t
    exact ⟨σ', a, rfl, b⟩
theorem bools_bl {α : Type} (p : α → Bool) : ∀ xs : List α, boolsOf (xs.map fun x => .bl (p x)) = some (xs.map p)
  | [] => rfl
  | x :: xs => by
    show (boolsOf (xs.map fun x => .bl (p x))).map (p x :: ·) = _
    rw [bools_bl p xs] <;> rfl
theorem all_bl {α : Type} (p : α → Bool) (xs : List α) (h : Hm) : biD .all [.lst (xs.map fun x => .bl (p x))] h = .ok (.bl (xs.all p)) h := by
  rw [bi_allL, bools_bl]
  dsimp only
  congr 2
  induction xs with
  | nil => rfl
  | cons x xs ih => rw [List.map_cons, List.all_cons, List.all_cons, ih] <;> rfl
theorem len_guard {α : Type} {n : Nat} {r : Res α} (h : n ≤ 1000000) : Res.guard (decide (n ≤ LIM)) r = r := guard_decide (Nat.le_trans h (by decide))
theorem bk_str {α : Type} {f : α → Str} {n : Nat} : ∀ (xs : List α) , belowDs n (xs.map fun x => .str (f x)) = true
  | [] => rfl
  | x :: xs => by
    show (true && belowDs n (xs.map fun x => .str (f x))) = true
    rw [bk_str xs] <;> rfl

theorem opn_tup {xs : List D} : opn (.tup xs) = true := by simp [opn]
theorem opn_lst {xs : List D} : opn (.lst xs) = true := by simp [opn]
theorem opn_int {i : Int} : opn (.int i) = true := by simp [opn]
theorem opn_str {x : Str} : opn (.str x) = true := by simp [opn]
theorem opn_bl {b : Bool} : opn (.bl b) = true := by simp [opn]
theorem opn_non : opn .non = true := by simp [opn]
theorem lenset_tup {xs : List D} {h : Hm} {ks : List Key} (e : keysOf xs = some ks) (l : ks.length ≤ 1000) : lensetD (.tup xs) h = .ok (.int (distS ks)) h := by
  show (match keysOf xs with
    | some ks => Res.guard (decide (ks.length ≤ 1000)) (.ok (D.int (distS ks)) h)
    | none => .stuck) = _
  rw [e]
  exact guard_decide l
def btw (a : Int) (v : D) (b : Int) : Bool := match v with
  | .int i => decide (a ≤ i) && decide (i ≤ b)
  | _ => false
def tupN (n : Int) (v : D) : Bool := match v with
  | .tup xs => decide ((xs.length : Int) = n)
  | _ => false
theorem tupN_tup {n : Int} {xs : List D} : tupN n (.tup xs) = decide ((xs.length : Int) = n) := rfl
theorem btw_int {a i b : Int} : btw a (.int i) b = (decide (a ≤ i) && decide (i ≤ b)) := rfl
local macro_rules | `(tactic| fail "mini fxx") => `(tactic| simp only [eq_strG, ok_lit, ofString_inj, eqFD_str, flatD_str, flatD_int, in_tup, in_lst, Bool.and_self, List.all_cons, List.all_nil, List.any_cons, List.any_nil, Bool.or_false, Bool.false_or, Bool.true_or, Bool.or_true, Bool.and_true, Bool.true_and, Bool.false_and, Bool.and_false, Bool.or_self, String.reduceEq, decide_true, decide_false, Bool.not_true, Bool.not_false, if_true, if_false, Bool.false_eq_true, reduceCtorEq, tupN_tup, btw_int, List.length, Nat.reduceAdd, Int.cast_ofNat_Int, Int.reduceEq, Int.reduceLE, Int.reduceLT, Int.reduceNeg, Int.reduceAdd, Int.reduceSub, Int.reduceMul])

/-! values of a bounded kind -/
def gvD (m L : Nat) : Nat → D → Bool
  | _, .non => true
  | _, .bl _ => true
  | _, .int i => decide (i.natAbs.log2 < L)
  | _, .str x => PyData.strOk x && decide (x.length ≤ m)
  | k + 1, .tup xs => decide (xs.length ≤ m) && xs.all (gvD m L k)
  | k + 1, .lst xs => decide (xs.length ≤ m) && xs.all (gvD m L k)
  | _, _ => false
section
variable {m L k m' L' k' : Nat} {d : D} {xs ys : List D}
theorem gv_non : gvD m L k .non = true := by cases k <;> rfl
theorem gv_bl {b : Bool} : gvD m L k (.bl b) = true := by cases k <;> rfl
theorem gv_int {i : Int} : gvD m L k (.int i) = decide (i.natAbs.log2 < L) := by cases k <;> rfl
theorem gv_str {x : Str} : gvD m L k (.str x) = (PyData.strOk x && decide (x.length ≤ m)) := by cases k <;> rfl
theorem gv_lit {s : String} (h : s.length ≤ m) : gvD m L k (.str (Str.ofString s)) = true := by
  rw [gv_str, ok_lit, lit_len, decide_eq_true h]
  rfl
theorem gv_tup : gvD m L (k + 1) (.tup xs) = (decide (xs.length ≤ m) && xs.all (gvD m L k)) := rfl
theorem gv_lst : gvD m L (k + 1) (.lst xs) = (decide (xs.length ≤ m) && xs.all (gvD m L k)) := rfl
theorem gv_tupM (l : xs.length ≤ m) (h : ∀ x ∈ xs, gvD m L k x = true) : gvD m L (k + 1) (.tup xs) = true := by
  rw [gv_tup, decide_eq_true l, List.all_eq_true.mpr h]
  rfl
theorem gv_lstM (l : xs.length ≤ m) (h : ∀ x ∈ xs, gvD m L k x = true) : gvD m L (k + 1) (.lst xs) = true := by
  rw [gv_lst, decide_eq_true l, List.all_eq_true.mpr h]
  rfl
theorem gv_len (h : gvD m L k (.tup xs) = true) : xs.length ≤ m := by
  cases k with
  | zero => exact Bool.noConfusion h
  | succ k => rw [gv_tup, Bool.and_eq_true] at h; exact of_decide_eq_true h.1
theorem gv_lenL (h : gvD m L k (.lst xs) = true) : xs.length ≤ m := by
  cases k with
  | zero => exact Bool.noConfusion h
  | succ k => rw [gv_lst, Bool.and_eq_true] at h; exact of_decide_eq_true h.1
theorem gv_mem (h : gvD m L (k + 1) (.tup xs) = true) : ∀ x ∈ xs, gvD m L k x = true := by
  rw [gv_tup, Bool.and_eq_true] at h
  exact List.all_eq_true.mp h.2
theorem gv_memL (h : gvD m L (k + 1) (.lst xs) = true) : ∀ x ∈ xs, gvD m L k x = true := by
  rw [gv_lst, Bool.and_eq_true] at h
  exact List.all_eq_true.mp h.2
theorem gv_up (hm : m ≤ m') (hL : L ≤ L') : ∀ {k k' : Nat} {d : D}, k ≤ k' → gvD m L k d = true → gvD m' L' k' d = true
  | _, _, .non, _, _ => gv_non
  | _, _, .bl _, _, _ => gv_bl
  | _, _, .int i, _, h => by
    rw [gv_int] at h ⊢
    exact decide_eq_true (Nat.lt_of_lt_of_le (of_decide_eq_true h) hL)
  | _, _, .str x, _, h => by
    rw [gv_str, Bool.and_eq_true] at h ⊢
    exact ⟨h.1, decide_eq_true (Nat.le_trans (of_decide_eq_true h.2) hm)⟩
  | 0, _, .tup xs, _, h => Bool.noConfusion h
  | k + 1, 0, .tup xs, hk, _ => absurd hk (by omega)
  | k + 1, k' + 1, .tup xs, hk, h => gv_tupM (Nat.le_trans (gv_len h) hm) fun x hx => gv_up hm hL (Nat.le_of_succ_le_succ hk) (gv_mem h x hx)
  | 0, _, .lst xs, _, h => Bool.noConfusion h
  | k + 1, 0, .lst xs, hk, _ => absurd hk (by omega)
  | k + 1, k' + 1, .lst xs, hk, h => gv_lstM (Nat.le_trans (gv_lenL h) hm) fun x hx => gv_up hm hL (Nat.le_of_succ_le_succ hk) (gv_memL h x hx)
  | k, _, .ref _, _, h => by cases k <;> exact Bool.noConfusion h
  | k, _, .wtup _, _, h => by cases k <;> exact Bool.noConfusion h
  | k, _, .dict _ _, _, h => by cases k <;> exact Bool.noConfusion h
  | k, _, .fn _ _, _, h => by cases k <;> exact Bool.noConfusion h
theorem gv_plain (hm : m ≤ 1000) : ∀ {k : Nat} {d : D}, gvD m L k d = true → plainD k d = true
  | k, .non, _ => by cases k <;> rfl
  | k, .bl _, _ => by cases k <;> rfl
  | k, .int _, _ => by cases k <;> rfl
  | k, .str x, h => by
    rw [gv_str, Bool.and_eq_true] at h
    cases k <;> exact h.1
  | 0, .tup xs, h => Bool.noConfusion h
  | k + 1, .tup xs, h => by
    show (decide (xs.length ≤ 1000) && xs.all (plainD k)) = true
    rw [decide_eq_true (Nat.le_trans (gv_len h) hm), List.all_eq_true.mpr fun x hx => gv_plain hm (gv_mem h x hx)]
    rfl
  | 0, .lst xs, h => Bool.noConfusion h
  | k + 1, .lst xs, h => by
    show (decide (xs.length ≤ 1000) && xs.all (plainD k)) = true
    rw [decide_eq_true (Nat.le_trans (gv_lenL h) hm), List.all_eq_true.mpr fun x hx => gv_plain hm (gv_memL h x hx)]
    rfl
  | k, .ref _, h => by cases k <;> exact Bool.noConfusion h
  | k, .wtup _, h => by cases k <;> exact Bool.noConfusion h
  | k, .dict _ _, h => by cases k <;> exact Bool.noConfusion h
  | k, .fn _ _, h => by cases k <;> exact Bool.noConfusion h
theorem log_allG : ∀ (xs : List D), (∀ x ∈ xs, logD x = true) → logDs xs = true
  | [], _ => rfl
  | x :: xs, h => by
    show (logD x && logDs xs) = true
    rw [h x List.mem_cons_self, log_allG xs fun y hy => h y (List.mem_cons_of_mem _ hy)]
    rfl
theorem gv_log (hL : L ≤ 1920) : ∀ {k : Nat} {d : D}, gvD m L k d = true → logD d = true
  | k, .non, _ => rfl
  | k, .bl _, _ => rfl
  | k, .int i, h => by
    rw [gv_int] at h
    exact decide_eq_true (Nat.lt_of_lt_of_le (of_decide_eq_true h) hL)
  | k, .str x, h => rfl
  | 0, .tup xs, h => Bool.noConfusion h
  | k + 1, .tup xs, h => log_allG xs fun x hx => gv_log hL (gv_mem h x hx)
  | 0, .lst xs, h => Bool.noConfusion h
  | k + 1, .lst xs, h => log_allG xs fun x hx => gv_log hL (gv_memL h x hx)
  | k, .ref _, h => by cases k <;> exact Bool.noConfusion h
  | k, .wtup _, h => by cases k <;> exact Bool.noConfusion h
  | k, .dict _ _, h => by cases k <;> exact Bool.noConfusion h
  | k, .fn _ _, h => by cases k <;> exact Bool.noConfusion h
theorem gv_opn : ∀ {k : Nat} {d : D}, gvD m L k d = true → opn d = true
  | k, .non, _ => rfl
  | k, .bl _, _ => rfl
  | k, .int i, h => rfl
  | k, .str x, h => rfl
  | k, .tup xs, h => rfl
  | k, .lst xs, h => rfl
  | k, .ref _, h => by cases k <;> exact Bool.noConfusion h
  | k, .wtup _, h => by cases k <;> exact Bool.noConfusion h
  | k, .dict _ _, h => by cases k <;> exact Bool.noConfusion h
  | k, .fn _ _, h => by cases k <;> exact Bool.noConfusion h
theorem gv_opns (h : gvD m L k (.tup xs) = true) : xs.all opn = true := by
  cases k with
  | zero => exact Bool.noConfusion h
  | succ k => exact List.all_eq_true.mpr fun x hx => gv_opn (gv_mem h x hx)
theorem gv_below {n : Nat} : ∀ {k : Nat} {d : D}, gvD m L k d = true → belowD n d = true
  | k, .non, _ => rfl
  | k, .bl _, _ => rfl
  | k, .int i, h => rfl
  | k, .str x, h => rfl
  | 0, .tup xs, h => Bool.noConfusion h
  | k + 1, .tup xs, h => by
    show belowDs n xs = true
    exact belowDs_of fun x hx => gv_below (gv_mem h x hx)
  | 0, .lst xs, h => Bool.noConfusion h
  | k + 1, .lst xs, h => by
    show belowDs n xs = true
    exact belowDs_of fun x hx => gv_below (gv_memL h x hx)
  | k, .ref _, h => by cases k <;> exact Bool.noConfusion h
  | k, .wtup _, h => by cases k <;> exact Bool.noConfusion h
  | k, .dict _ _, h => by cases k <;> exact Bool.noConfusion h
  | k, .fn _ _, h => by cases k <;> exact Bool.noConfusion h
end
theorem wts_app : ∀ (xs ys : List D), wtDs (xs ++ ys) = wtDs xs + wtDs ys
  | [], ys => (Nat.zero_add _).symm
  | x :: xs, ys => by
    show wtD x + 2 + wtDs (xs ++ ys) = wtD x + 2 + wtDs xs + wtDs ys
    rw [wts_app xs ys]
    omega
theorem wts_cut (xs : List D) (n : Nat) : wtDs (xs.take n) + wtDs (xs.drop n) = wtDs xs := by
  rw [← wts_app, List.take_append_drop]
theorem wts_mem {xs : List D} {x : D} (h : x ∈ xs) : wtD x + 2 ≤ wtDs xs := by
  induction xs with
  | nil => cases h
  | cons y ys ih =>
    show _ ≤ wtD y + 2 + wtDs ys
    rcases List.mem_cons.mp h with rfl | h
    · omega
    · have := ih h; omega
theorem wts_rev : ∀ (xs : List D), wtDs xs.reverse = wtDs xs
  | [] => rfl
  | x :: xs => by
    rw [List.reverse_cons, wts_app, wts_rev xs]
    show wtDs xs + (wtD x + 2 + 0) = wtD x + 2 + wtDs xs
    omega
/-- the sides of a place -/
theorem wts_at {xs : List D} {n : Nat} {x : D} (h : xs[n]? = some x) : wtDs (xs.take n) + (wtD x + 2) + wtDs (xs.drop (n + 1)) = wtDs xs := by
  have hn := (List.getElem?_eq_some_iff.mp h).1
  have e : xs.drop n = x :: xs.drop (n + 1) := by
    rw [List.drop_eq_getElem_cons hn]
    congr 1
    exact (List.getElem?_eq_some_iff.mp h).2
  have := wts_cut xs n
  rw [e] at this
  have : wtDs (xs.take n) + (wtD x + 2 + wtDs (xs.drop (n + 1))) = wtDs xs := this
  omega

/-! columns, rows -/
inductive Kd where
  | num (lo hi : Int) | wrd (ws : List Str)
structure Col where
  nm : Str
  kd : Kd
def kdD : Kd → D
  | .num lo hi => .tup [.str "number", .int lo, .int hi]
  | .wrd ws => .tup [.str "word", .tup (ws.map .str)]
def colD (c : Col) : D := .tup [.str c.nm, kdD c.kd]
def colsD (cs : List Col) : D := .tup (cs.map colD)
theorem map_inj {α : Type} {f : α → D} (hf : ∀ a b, f a = f b → a = b) : ∀ {xs ys : List α}, xs.map f = ys.map f → xs = ys
  | [], [], _ => rfl
  | [], _ :: _, e => by cases e
  | _ :: _, [], e => by cases e
  | x :: xs, y :: ys, e => by
    rw [List.map_cons, List.map_cons] at e
    injection e with e1 e2
    rw [hf _ _ e1, map_inj hf e2]
theorem kdD_inj {a b : Kd} (e : kdD a = kdD b) : a = b := by
  cases a <;> cases b <;> unfold kdD at e
  · cases e; rfl
  · exfalso
    injection e with e
    injection e with _ e
    injection e with _ e
    cases e
  · exfalso
    injection e with e
    injection e with _ e
    injection e with _ e
    cases e
  · injection e with e
    injection e with _ e
    injection e with e _
    injection e with e
    rw [map_inj (fun a b e => by injection e) e]
theorem colD_inj {a b : Col} (e : colD a = colD b) : a = b := by
  unfold colD at e
  injection e with e
  injection e with e1 e2
  injection e2 with e2 _
  injection e1 with e1
  cases a; cases b
  simp only at e1 e2
  rw [e1, kdD_inj e2]
theorem colsD_inj {a b : List Col} (e : colsD a = colsD b) : a = b := by
  unfold colsD at e
  injection e with e
  exact map_inj (fun _ _ => colD_inj) e
def wordOk (x : Str) : Bool := decide (1 ≤ x.length) && decide (x.length ≤ 8) && x.cps.toList.all fun c => decide (97 ≤ c) && decide (c ≤ 122)
def KdOk : Kd → Prop
  | .num lo hi => -1000 ≤ lo ∧ lo ≤ 1000 ∧ -1000 ≤ hi ∧ hi ≤ 1000 ∧ 0 ≤ hi - lo ∧ hi - lo ≤ 30
  | .wrd ws => 1 ≤ ws.length ∧ ws.length ≤ 6 ∧ (∀ x ∈ ws, wordOk x = true) ∧ ws.Nodup
def valsD : Kd → List D
  | .num lo hi => rngD lo (hi + 1 - lo).toNat
  | .wrd ws => ws.map .str
def countC (cs : List Col) : Nat := cs.foldl (fun n c => n * (valsD c.kd).length) 1
structure ColsOk (cs : List Col) : Prop where
  one : 1 ≤ cs.length
  four : cs.length ≤ 4
  kd : ∀ c ∈ cs, KdOk c.kd
  nm : ∀ c ∈ cs, wordOk c.nm = true
  nd : (cs.map (·.nm)).Nodup
  few : countC cs ≤ 10000
theorem word_ok {x : Str} (h : wordOk x = true) : PyData.strOk x = true := by
  unfold wordOk at h
  rw [Bool.and_eq_true] at h
  unfold PyData.strOk
  rw [Array.all_eq_true']
  intro c hc
  have := List.all_eq_true.mp h.2 c (by simpa using hc)
  rw [Bool.and_eq_true, decide_eq_true_eq, decide_eq_true_eq] at this
  exact decide_eq_true (by omega)
theorem word_len {x : Str} (h : wordOk x = true) : 1 ≤ x.length ∧ x.length ≤ 8 := by
  unfold wordOk at h
  rw [Bool.and_eq_true, Bool.and_eq_true, decide_eq_true_eq, decide_eq_true_eq] at h
  exact h.1
/-! is_between -/
def P_is_between : List D → D → Prop := fun ds r => ∃ a v b, ds = [.int a, v, .int b] ∧ opn v = true ∧ r = .bl (btw a v b)
noncomputable def G_is_between : Gam := gamL [] []
theorem N_is_between : c_is_between.N = (["least", "value", "most"] : List Str) := rfl
noncomputable def d_is_between : List D → Hm → Res D := denT G_is_between c_is_between.N 3 b_is_between (TR P_is_between)
theorem sp_is_between {ds : List D} {h : Hm} (hl : ds.length = 3) (w : wpB G_is_between b_is_between (startD c_is_between.N ds) h (PoT (TR P_is_between) ds h)) : ∃ r h2, d_is_between ds h = .ok r h2 ∧ (TR P_is_between) ds h r h2 := denT_ok hl w
theorem ub_is_between {Γ : Gam} {σ : Sg} {h : Hm} {P : Po} : wpB Γ b_is_between σ h P = wpB Γ (.cons (.ret (.band (.isi (.v 1) .int) (.band (.bnot (.isi (.v 1) .bool)) (.chain .le .le (.v 0) (.v 1) (.v 2))))) .nil) σ h P := rfl
local macro_rules | `(tactic| fail "mini u_is_between") => `(tactic| simp only [N_is_between, opn_tup, opn_lst, opn_int, opn_str, opn_bl, opn_non, eq_self, ub_is_between])
local macro_rules | `(tactic| fail "mini x_is_between") => `(tactic| repeat (first | fail "mini fw" | fail "mini u_is_between" | fail "mini fxx"))
theorem e_is_between {a b : Int} {v : D} {h : Hm} (o : opn v = true) : d_is_between [.int a, v, .int b] h = .ok (.bl (btw a v b)) h := by
  refine den_TR rfl ?_ ⟨a, v, b, rfl, o, rfl⟩ ?_
  · rintro v' ⟨a', v2, b', e, _, rfl⟩
    obtain ⟨e1, rfl, e3⟩ := in3 e
    injection e1 with e1
    injection e3 with e3
    rw [e1, e3]
  · cases v <;> first | exact Bool.noConfusion o | (fail "mini x_is_between"; exact .refl)
/-! is_tuple_of -/
def P_is_tuple_of : List D → D → Prop := fun ds r => ∃ n v, ds = [.int n, v] ∧ opn v = true ∧ r = .bl (tupN n v)
noncomputable def G_is_tuple_of : Gam := gamL [] []
theorem N_is_tuple_of : c_is_tuple_of.N = (["length", "value"] : List Str) := rfl
noncomputable def d_is_tuple_of : List D → Hm → Res D := denT G_is_tuple_of c_is_tuple_of.N 2 b_is_tuple_of (TR P_is_tuple_of)
theorem sp_is_tuple_of {ds : List D} {h : Hm} (hl : ds.length = 2) (w : wpB G_is_tuple_of b_is_tuple_of (startD c_is_tuple_of.N ds) h (PoT (TR P_is_tuple_of) ds h)) : ∃ r h2, d_is_tuple_of ds h = .ok r h2 ∧ (TR P_is_tuple_of) ds h r h2 := denT_ok hl w
theorem ub_is_tuple_of {Γ : Gam} {σ : Sg} {h : Hm} {P : Po} : wpB Γ b_is_tuple_of σ h P = wpB Γ (.cons (.ret (.band (.isi (.v 1) .tuple) (.cmp .eq (.bi .len (.cons (.v 1) .nil)) (.v 0)))) .nil) σ h P := rfl
local macro_rules | `(tactic| fail "mini u_is_tuple_of") => `(tactic| simp only [N_is_tuple_of, opn_tup, opn_lst, opn_int, opn_str, opn_bl, opn_non, eq_self, ub_is_tuple_of])
local macro_rules | `(tactic| fail "mini x_is_tuple_of") => `(tactic| repeat (first | fail "mini fw" | fail "mini u_is_tuple_of" | fail "mini fxx"))
theorem e_is_tuple_of {n : Int} {v : D} {h : Hm} (o : opn v = true) : d_is_tuple_of [.int n, v] h = .ok (.bl (tupN n v)) h := by
  refine den_TR rfl ?_ ⟨n, v, rfl, o, rfl⟩ ?_
  · rintro v' ⟨n', v2, e, _, rfl⟩
    obtain ⟨e1, rfl⟩ := in2 e
    injection e1 with e1
    rw [e1]
  · cases v <;> first | exact Bool.noConfusion o | (fail "mini x_is_tuple_of"; exact .refl)
/-! is_word -/
theorem sign_lt (a b : Nat) : decide ([a] < [b]) = decide (a < b) := by
  rw [decide_eq_decide]
  constructor
  · intro h
    cases h with
    | rel h => exact h
    | cons h => cases h
  · intro h
    exact .rel h
theorem lit_a : (Str.ofString "a").cps.toList = [97] := by decide +kernel
theorem lit_z : (Str.ofString "z").cps.toList = [122] := by decide +kernel
def smallS (v : D) : Bool := match v with
  | .str x => decide (x.length ≤ 100000)
  | _ => true
def isWordD (v : D) : Bool := match v with
  | .str x => wordOk x
  | _ => false
theorem isWordD_str {x : Str} : isWordD (.str x) = wordOk x := rfl
def P_is_word : List D → D → Prop := fun ds r => ∃ v : D, ds = [v] ∧ opn v = true ∧ smallS v = true ∧ r = .bl (isWordD v)
noncomputable def G_is_word : Gam := gamL [] []
theorem N_is_word : c_is_word.N = (["value", "sign"] : List Str) := rfl
noncomputable def d_is_word : List D → Hm → Res D := denT G_is_word c_is_word.N 1 b_is_word (TR P_is_word)
theorem sp_is_word {ds : List D} {h : Hm} (hl : ds.length = 1) (w : wpB G_is_word b_is_word (startD c_is_word.N ds) h (PoT (TR P_is_word) ds h)) : ∃ r h2, d_is_word ds h = .ok r h2 ∧ (TR P_is_word) ds h r h2 := denT_ok hl w
theorem ub_is_word {Γ : Gam} {σ : Sg} {h : Hm} {P : Po} : wpB Γ b_is_word σ h P = wpB Γ (.cons (.ret (.band (.isi (.v 0) .str) (.band (.chain .le .le (.int 1) (.bi .len (.cons (.v 0) .nil)) (.int 8)) (.bi .all (.cons (.comp false [("sign", 1)] (.v 1) (.sgn (.v 0)) .nil (.chain .le .le (.str "a") (.v 1) (.str "z"))) .nil))))) .nil) σ h P := rfl
local macro_rules | `(tactic| fail "mini u_is_word") => `(tactic| simp only [N_is_word, opn_tup, opn_lst, opn_int, opn_str, opn_bl, opn_non, eq_self, ub_is_word])
local macro_rules | `(tactic| fail "mini x_is_word") => `(tactic| repeat (first | fail "mini fw" | fail "mini u_is_word" | fail "mini fxx"))
theorem e_is_wordG {v : D} {h : Hm} (o : opn v = true) (l : smallS v = true) : d_is_word [v] h = .ok (.bl (isWordD v)) h := by
  refine den_TR rfl ?_ ⟨v, rfl, o, l, rfl⟩ ?_
  · rintro v' ⟨x', e, _, _, rfl⟩
    rw [in1 e]
  · cases v <;> first | exact Bool.noConfusion o | (fail "mini x_is_word"; exact .refl) | skip
    rename_i x
    have l : x.length ≤ 100000 := of_decide_eq_true l
    rw [isWordD_str]
    fail "mini x_is_word"
    rw [len_guard (Nat.le_trans l (by decide))]
    have e1 : wordOk x = ((decide (1 ≤ (x.length : Int)) && decide ((x.length : Int) ≤ 8)) && x.cps.toList.all fun c => decide (97 ≤ c) && decide (c ≤ 122)) := by
      unfold wordOk
      congr 2 <;> exact decide_eq_decide.mpr (by omega)
    cases hl : (decide (1 ≤ (x.length : Int)) && decide ((x.length : Int) ≤ 8)) with
    | false =>
      rw [hl] at e1
      fail "mini x_is_word"
      rw [e1]
      exact .refl
    | true =>
      rw [hl] at e1
      fail "mini x_is_word"
      unfold signsD
      rw [compR_enc x.cps.toList (fun c => D.str ⟨#[c]⟩) (fun c => .bl (decide (97 ≤ c) && decide (c ≤ 122))) (fun c hc t => ⟨_, rfl, ?_⟩) (by rw [Array.length_toList]; exact (Nat.le_trans l (by decide) : x.length ≤ 1000000)) (fun _ _ => rfl)]
      · rw [Res.bind_ok, all_bl, e1]
        fail "mini x_is_word"
        exact .refl
      · fail "mini x_is_word"
        rw [lit_a, lit_z, sign_lt, sign_lt]
        congr 3 <;> (rw [← decide_not]; exact decide_eq_decide.mpr (by omega))
/-! are_words -/
def strKeys (ws : List Str) : List Key := ws.map Sum.inr
theorem keys_str : ∀ ws : List Str, keysOf (ws.map D.str) = some (strKeys ws)
  | [] => rfl
  | w :: ws => by
    show (match keyOf (.str w), keysOf (ws.map D.str) with | some k, some ks => some (k :: ks) | _, _ => none) = _
    rw [keys_str ws] <;> rfl
theorem dist_nodup : ∀ (ks acc : List Key), (acc ++ ks).Nodup → ks.foldl stepK acc = acc ++ ks
  | [], acc, _ => by simp
  | k :: ks, acc, nd => by
    have hk : inK k acc = false := by
      cases e : inK k acc with
      | false => rfl
      | true =>
        have := inK_iff.mp e
        rw [List.nodup_append] at nd
        exact absurd rfl (nd.2.2 k this k List.mem_cons_self)
    have e : stepK acc k = acc ++ [k] := by
      unfold stepK
      rw [hk]
      rfl
    rw [List.foldl_cons, e, dist_nodup ks (acc ++ [k]) (by rw [List.append_assoc]; exact nd), List.append_assoc] <;> rfl
theorem distS_nodup {ks : List Key} (h : ks.Nodup) : distS ks = ks.length := by
  unfold distS distL
  rw [dist_nodup ks [] (by simpa using h)] <;> rfl
theorem strKeys_nodup {ws : List Str} (h : ws.Nodup) : (strKeys ws).Nodup := h.map _ (fun x y hxy e => hxy (Sum.inr.inj e))
/-- the texts of a value -/
def asStr : D → Str
  | .str x => x
  | _ => Str.ofString ""
theorem words_of : ∀ {vs : List D}, vs.all isWordD = true → vs = (vs.map asStr).map D.str ∧ ∀ w ∈ vs.map asStr, wordOk w = true
  | [], _ => ⟨rfl, fun w h => by cases h⟩
  | v :: vs, h => by
    rw [List.all_cons, Bool.and_eq_true] at h
    obtain ⟨i1, i2⟩ := words_of h.2
    cases v <;> first | exact Bool.noConfusion h.1 | skip
    rename_i x
    refine ⟨?_, fun w hw => ?_⟩
    · rw [List.map_cons, List.map_cons, ← i1]
      rfl
    · rcases List.mem_cons.mp hw with rfl | hw
      · exact h.1
      · exact i2 w hw
def dupS : List Str → Bool
  | [] => false
  | w :: ws => decide (w ∈ ws) || dupS ws
open Classical in
noncomputable def areWordsD (n : Int) (v : D) : Bool := match v with
  | .tup vs => (decide ((1 : Int) ≤ vs.length) && decide ((vs.length : Int) ≤ n)) && vs.all isWordD && decide ((vs.map asStr).Nodup)
  | _ => false
theorem stepK_le : ∀ (ks acc : List Key), (ks.foldl stepK acc).length ≤ acc.length + ks.length
  | [], acc => Nat.le_refl _
  | k :: ks, acc => by
    rw [List.foldl_cons]
    refine Nat.le_trans (stepK_le ks _) ?_
    unfold stepK
    split
    · rw [List.length_cons]; omega
    · rw [List.length_append, List.length_cons]; simp; omega
theorem stepK_nodup : ∀ (ks acc : List Key), acc.Nodup → (ks.foldl stepK acc).length = acc.length + ks.length → (acc ++ ks).Nodup
  | [], acc, nd, _ => by simpa using nd
  | k :: ks, acc, nd, e => by
    rw [List.foldl_cons] at e
    have le := stepK_le ks (stepK acc k)
    cases q : inK k acc with
    | true =>
      exfalso
      have e2 : stepK acc k = acc := by unfold stepK; rw [q]; rfl
      rw [e2] at e le
      rw [List.length_cons] at e
      omega
    | false =>
      have e2 : stepK acc k = acc ++ [k] := by unfold stepK; rw [q]; rfl
      rw [e2] at e
      have nk : k ∉ acc := fun m => by rw [inK_iff.mpr m] at q; cases q
      have := stepK_nodup ks (acc ++ [k]) (by
        rw [List.nodup_append]
        exact ⟨nd, by simp, fun a ha b hb z => nk (by rw [List.mem_singleton.mp hb] at z; rw [← z]; exact ha)⟩) (by rw [e, List.length_append, List.length_cons]; simp; omega)
      rw [List.append_assoc] at this
      exact this
theorem distS_iff {ks : List Key} : distS ks = ks.length ↔ ks.Nodup := by
  constructor
  · intro h
    have := stepK_nodup ks [] List.nodup_nil (by simpa [distS, distL] using h)
    simpa using this
  · exact distS_nodup
theorem strKeys_iff {ws : List Str} : (strKeys ws).Nodup ↔ ws.Nodup := by
  constructor
  · intro h
    exact List.Pairwise.of_map (S := fun a b : Key => a ≠ b) Sum.inr (fun a b hn e => hn (congrArg _ e)) h
  · exact strKeys_nodup
theorem strKeys_len {ws : List Str} : (strKeys ws).length = ws.length := List.length_map _
def okWs (v : D) : Prop := opn v = true ∧ ∀ xs, v = .tup xs → xs.length ≤ 1000 ∧ ∀ x ∈ xs, opn x = true ∧ smallS x = true
def P_are_words : List D → D → Prop := fun ds r => ∃ (n : Int) (v : D), ds = [.int n, v] ∧ okWs v ∧ r = .bl (areWordsD n v)
noncomputable def G_are_words : Gam := gamL [(n_is_word, d_is_word)] []
theorem cg_are_words_is_word {ds : List D} {h : Hm} : callG G_are_words n_is_word ds h = d_is_word ds h := rfl
theorem N_are_words : c_are_words.N = (["most", "value", "word"] : List Str) := rfl
noncomputable def d_are_words : List D → Hm → Res D := denT G_are_words c_are_words.N 2 b_are_words (TR P_are_words)
theorem sp_are_words {ds : List D} {h : Hm} (hl : ds.length = 2) (w : wpB G_are_words b_are_words (startD c_are_words.N ds) h (PoT (TR P_are_words) ds h)) : ∃ r h2, d_are_words ds h = .ok r h2 ∧ (TR P_are_words) ds h r h2 := denT_ok hl w
theorem ub_are_words_3 {Γ : Gam} {σ : Sg} {h : Hm} {P : Po} : wpB Γ b_are_words_3 σ h P = wpB Γ (.cons (.ret (.bl false)) .nil) σ h P := rfl
theorem ub_are_words_2 {Γ : Gam} {σ : Sg} {h : Hm} {P : Po} : wpB Γ b_are_words_2 σ h P = wpB Γ (.cons (.ret (.cmp .eq (.lenset (.v 1)) (.bi .len (.cons (.v 1) .nil)))) .nil) σ h P := rfl
theorem ub_are_words {Γ : Gam} {σ : Sg} {h : Hm} {P : Po} : wpB Γ b_are_words σ h P = wpB Γ (.cons (.ife (.bor (.bnot (.isi (.v 1) .tuple)) (.bor (.bnot (.chain .le .le (.int 1) (.bi .len (.cons (.v 1) .nil)) (.v 0))) (.bnot (.bi .all (.cons (.comp false [("word", 2)] (.v 2) (.ex (.v 1)) .nil (.call n_is_word (.cons (.v 2) .nil))) .nil))))) b_are_words_3 .nil) b_are_words_2) σ h P := rfl
local macro_rules | `(tactic| fail "mini u_are_words") => `(tactic| simp only [N_are_words, cg_are_words_is_word, opn_tup, opn_lst, opn_int, opn_str, opn_bl, opn_non, eq_self, ub_are_words_3, ub_are_words_2, ub_are_words])
local macro_rules | `(tactic| fail "mini x_are_words") => `(tactic| repeat (first | fail "mini fw" | fail "mini u_are_words" | fail "mini fxx"))
theorem areWordsD_tup {n : Int} {vs : List D} : areWordsD n (.tup vs) = ((decide ((1 : Int) ≤ vs.length) && decide ((vs.length : Int) ≤ n)) && vs.all isWordD && decide ((vs.map asStr).Nodup)) := by
  unfold areWordsD
  congr
theorem e_are_wordsG {n : Int} {v : D} {h : Hm} (o : okWs v) : d_are_words [.int n, v] h = .ok (.bl (areWordsD n v)) h := by
  refine den_TR rfl ?_ ⟨n, v, rfl, o, rfl⟩ ?_
  · rintro v' ⟨n', v2, e, _, rfl⟩
    obtain ⟨e1, rfl⟩ := in2 e
    injection e1 with e1
    rw [e1]
  · have o1 := o.1
    cases v <;> first | exact Bool.noConfusion o1 | (fail "mini x_are_words"; exact .refl) | skip
    rename_i vs
    obtain ⟨l, os⟩ := o.2 vs rfl
    rw [areWordsD_tup]
    fail "mini x_are_words"
    cases hl : (decide ((1 : Int) ≤ vs.length) && decide ((vs.length : Int) ≤ n)) with
    | false =>
      fail "mini x_are_words"
      exact .refl
    | true =>
      fail "mini x_are_words"
      rw [show vs = vs.map fun x => x from (List.map_id' vs).symm]
      rw [compR_enc vs (fun x => x) (fun x => .bl (isWordD x)) (fun x hx t => ⟨_, rfl, ?_⟩) (by omega) (fun _ _ => rfl), Res.bind_ok, all_bl, List.map_id']
      · cases hw : vs.all isWordD with
        | false =>
          fail "mini x_are_words"
          exact .refl
        | true =>
          fail "mini x_are_words"
          obtain ⟨w1, w2⟩ := words_of hw
          have ek : keysOf vs = some (strKeys (vs.map asStr)) := by
            have := keys_str (vs.map asStr)
            rwa [← w1] at this
          rw [lenset_tup ek (by rw [strKeys_len, List.length_map]; exact l)]
          fail "mini x_are_words"
          have e : decide (((distS (strKeys (vs.map asStr)) : Nat) : Int) = (vs.length : Int)) = decide ((vs.map asStr).Nodup) := by
            apply decide_eq_decide.mpr
            rw [← strKeys_iff, ← distS_iff, strKeys_len, List.length_map]
            omega
          rw [e]
          exact .refl
      · fail "mini x_are_words"
        rw [e_is_wordG (os x hx).1 (os x hx).2]
theorem okWs_words {ws : List Str} (l : ws.length ≤ 1000) (hw : ∀ w ∈ ws, wordOk w = true) : okWs (.tup (ws.map .str)) := by
  refine ⟨rfl, fun xs e => ?_⟩
  injection e with e
  subst e
  refine ⟨by rw [List.length_map]; exact l, fun x hx => ?_⟩
  obtain ⟨w, hm, rfl⟩ := List.mem_map.mp hx
  exact ⟨rfl, decide_eq_true (by have := word_len (hw w hm); omega)⟩
theorem asStr_map (ws : List Str) : (ws.map D.str).map asStr = ws := by
  rw [List.map_map]
  exact List.map_id' ws
theorem e_are_words {n : Int} {ws : List Str} {h : Hm} (l1 : 1 ≤ ws.length) (l2 : (ws.length : Int) ≤ n) (l3 : ws.length ≤ 1000) (hw : ∀ w ∈ ws, wordOk w = true) (nd : ws.Nodup) : d_are_words [.int n, .tup (ws.map .str)] h = .ok (.bl true) h := by
  rw [e_are_wordsG (okWs_words l3 hw), areWordsD_tup, asStr_map, List.length_map, decide_eq_true (show (1 : Int) ≤ ws.length by omega), decide_eq_true l2, decide_eq_true nd]
  rw [show (ws.map D.str).all isWordD = true from List.all_eq_true.mpr fun v hv => by
    obtain ⟨w, hm, rfl⟩ := List.mem_map.mp hv
    exact hw w hm]
  rfl
theorem tupN_non {n : Int} : tupN n .non = false := by simp [tupN]
theorem tupN_bl {n : Int} {b : Bool} : tupN n (.bl b) = false := by simp [tupN]
theorem tupN_int {n i : Int} : tupN n (.int i) = false := by simp [tupN]
theorem tupN_str {n : Int} {x : Str} : tupN n (.str x) = false := by simp [tupN]
theorem tupN_lst {n : Int} {xs : List D} : tupN n (.lst xs) = false := by simp [tupN]
/-! is_kind -/
open Classical in
noncomputable def isKindD (v : D) : Bool := decide (∃ k : Kd, v = kdD k ∧ KdOk k)
open Classical in
theorem isKindD_true {k : Kd} (o : KdOk k) : isKindD (kdD k) = true := by
  unfold isKindD
  exact decide_eq_true ⟨k, rfl, o⟩
open Classical in
theorem isKindD_false {v : D} (h : ∀ k : Kd, v = kdD k → KdOk k → False) : isKindD v = false := by
  unfold isKindD
  exact decide_eq_false fun ⟨k, e, o⟩ => h k e o
/-- a value whose texts are short -/
def okKd (v : D) : Prop := opn v = true ∧ ∀ xs, v = .tup xs → (∀ x ∈ xs, opn x = true ∧ okWs x) ∧ ∀ x, xs[0]? = some (.str x) → PyData.strOk x = true
def P_is_kind : List D → D → Prop := fun ds r => ∃ v : D, ds = [v] ∧ okKd v ∧ r = .bl (isKindD v)
noncomputable def G_is_kind : Gam := gamL [(n_is_between, d_is_between), (n_is_tuple_of, d_is_tuple_of), (n_are_words, d_are_words)] [(1, .int 1000), (2, .int 30), (3, .int 6)]
theorem cg_is_kind_is_between {ds : List D} {h : Hm} : callG G_is_kind n_is_between ds h = d_is_between ds h := rfl
theorem cg_is_kind_is_tuple_of {ds : List D} {h : Hm} : callG G_is_kind n_is_tuple_of ds h = d_is_tuple_of ds h := rfl
theorem cg_is_kind_are_words {ds : List D} {h : Hm} : callG G_is_kind n_are_words ds h = d_are_words ds h := rfl
theorem gl_is_kind_1 {h : Hm} : globG G_is_kind 1 h = .ok (.int 1000) h := rfl
theorem gl_is_kind_2 {h : Hm} : globG G_is_kind 2 h = .ok (.int 30) h := rfl
theorem gl_is_kind_3 {h : Hm} : globG G_is_kind 3 h = .ok (.int 6) h := rfl
theorem N_is_kind : c_is_kind.N = (["value"] : List Str) := rfl
noncomputable def d_is_kind : List D → Hm → Res D := denT G_is_kind c_is_kind.N 1 b_is_kind (TR P_is_kind)
theorem sp_is_kind {ds : List D} {h : Hm} (hl : ds.length = 1) (w : wpB G_is_kind b_is_kind (startD c_is_kind.N ds) h (PoT (TR P_is_kind) ds h)) : ∃ r h2, d_is_kind ds h = .ok r h2 ∧ (TR P_is_kind) ds h r h2 := denT_ok hl w
theorem ub_is_kind_5 {Γ : Gam} {σ : Sg} {h : Hm} {P : Po} : wpB Γ b_is_kind_5 σ h P = wpB Γ (.cons (.ret (.call n_are_words (.cons (.glob 3) (.cons (.ix (.v 0) (.int 1)) .nil)))) .nil) σ h P := rfl
theorem ub_is_kind_6 {Γ : Gam} {σ : Sg} {h : Hm} {P : Po} : wpB Γ b_is_kind_6 σ h P = wpB Γ (.cons (.ret (.bl false)) .nil) σ h P := rfl
theorem ub_is_kind_7 {Γ : Gam} {σ : Sg} {h : Hm} {P : Po} : wpB Γ b_is_kind_7 σ h P = wpB Γ (.cons (.ret (.bl false)) .nil) σ h P := rfl
theorem ub_is_kind_4 {Γ : Gam} {σ : Sg} {h : Hm} {P : Po} : wpB Γ b_is_kind_4 σ h P = wpB Γ (.cons (.ret (.chain .le .le (.int 0) (.op2 .sub (.ix (.v 0) (.int 2)) (.ix (.v 0) (.int 1))) (.glob 2))) .nil) σ h P := rfl
theorem ub_is_kind_3 {Γ : Gam} {σ : Sg} {h : Hm} {P : Po} : wpB Γ b_is_kind_3 σ h P = wpB Γ (.cons (.ife (.bor (.bnot (.call n_is_between (.cons (.neg (.glob 1)) (.cons (.ix (.v 0) (.int 1)) (.cons (.glob 1) .nil))))) (.bnot (.call n_is_between (.cons (.neg (.glob 1)) (.cons (.ix (.v 0) (.int 2)) (.cons (.glob 1) .nil)))))) b_is_kind_7 .nil) b_is_kind_4) σ h P := rfl
theorem ub_is_kind_2 {Γ : Gam} {σ : Sg} {h : Hm} {P : Po} : wpB Γ b_is_kind_2 σ h P = wpB Γ (.cons (.ife (.bor (.bnot (.call n_is_tuple_of (.cons (.int 3) (.cons (.v 0) .nil)))) (.bor (.bnot (.isi (.ix (.v 0) (.int 0)) .str)) (.cmp .ne (.ix (.v 0) (.int 0)) (.str "number")))) b_is_kind_6 .nil) b_is_kind_3) σ h P := rfl
theorem ub_is_kind {Γ : Gam} {σ : Sg} {h : Hm} {P : Po} : wpB Γ b_is_kind σ h P = wpB Γ (.cons (.ife (.band (.call n_is_tuple_of (.cons (.int 2) (.cons (.v 0) .nil))) (.band (.isi (.ix (.v 0) (.int 0)) .str) (.cmp .eq (.ix (.v 0) (.int 0)) (.str "word")))) b_is_kind_5 .nil) b_is_kind_2) σ h P := rfl
local macro_rules | `(tactic| fail "mini u_is_kind") => `(tactic| simp only [N_is_kind, cg_is_kind_is_between, cg_is_kind_is_tuple_of, cg_is_kind_are_words, gl_is_kind_1, gl_is_kind_2, gl_is_kind_3, e_is_between, e_is_tuple_of, e_are_words, opn_tup, opn_lst, opn_int, opn_str, opn_bl, opn_non, eq_self, ub_is_kind_5, ub_is_kind_6, ub_is_kind_7, ub_is_kind_4, ub_is_kind_3, ub_is_kind_2, ub_is_kind])
local macro_rules | `(tactic| fail "mini x_is_kind") => `(tactic| repeat (first | fail "mini fw" | fail "mini u_is_kind" | fail "mini fxx"))
theorem kind_word {x : D} (o : okWs x) : areWordsD 6 x = isKindD (.tup [.str "word", x]) := by
  cases h : areWordsD 6 x with
  | true =>
    cases x <;> first | (exact Bool.noConfusion h) | skip
    rename_i vs
    rw [areWordsD_tup, Bool.and_eq_true, Bool.and_eq_true, Bool.and_eq_true] at h
    obtain ⟨⟨⟨h1, h2⟩, h3⟩, h4⟩ := h
    obtain ⟨w1, w2⟩ := words_of h3
    rw [w1]
    have h1 := of_decide_eq_true h1
    have h2 := of_decide_eq_true h2
    exact (isKindD_true (k := .wrd (vs.map asStr)) ⟨by rw [List.length_map]; omega, by rw [List.length_map]; omega, w2, of_decide_eq_true h4⟩).symm
  | false =>
    refine (isKindD_false fun k e ok => ?_).symm
    cases k with
    | num lo hi => rw [kdD] at e; revert e; simp
    | wrd ws =>
      have e2 : x = .tup (ws.map .str) := by
        unfold kdD at e
        injection e with e
        exact (in2 e).2
      subst e2
      obtain ⟨o1, o2, o3, o4⟩ := ok
      rw [areWordsD_tup, asStr_map, List.length_map, decide_eq_true (show (1 : Int) ≤ ws.length by omega), decide_eq_true (show (ws.length : Int) ≤ 6 by omega), decide_eq_true o4, show (ws.map D.str).all isWordD = true from List.all_eq_true.mpr fun v hv => by
        obtain ⟨w, hm, rfl⟩ := List.mem_map.mp hv
        exact o3 w hm] at h
      cases h
theorem kdD_two {a b : D} {k : Kd} (e : D.tup [a, b] = kdD k) : a = .str "word" := by
  cases k with
  | num lo hi => rw [kdD] at e; revert e; simp
  | wrd ws =>
    unfold kdD at e
    injection e with e
    exact (in2 e).1
theorem kdD_three {a b c : D} {k : Kd} (e : D.tup [a, b, c] = kdD k) : ∃ lo hi, a = .str "number" ∧ b = .int lo ∧ c = .int hi ∧ k = .num lo hi := by
  cases k with
  | num lo hi =>
    unfold kdD at e
    injection e with e
    obtain ⟨e1, e2, e3⟩ := in3 e
    exact ⟨lo, hi, e1, e2, e3, rfl⟩
  | wrd ws => rw [kdD] at e; revert e; simp
theorem kdD_len {xs : List D} {k : Kd} (e : D.tup xs = kdD k) : xs.length = 2 ∨ xs.length = 3 := by
  cases k with
  | num lo hi => unfold kdD at e; injection e with e; rw [e]; exact .inr rfl
  | wrd ws => unfold kdD at e; injection e with e; rw [e]; exact .inl rfl
theorem btw_of {a b : Int} {v : D} (h : btw a v b = true) : ∃ i, v = .int i ∧ a ≤ i ∧ i ≤ b := by
  cases v <;> first | exact Bool.noConfusion h | skip
  rename_i i
  have h : (decide (a ≤ i) && decide (i ≤ b)) = true := h
  rw [Bool.and_eq_true] at h
  exact ⟨i, rfl, of_decide_eq_true h.1, of_decide_eq_true h.2⟩
theorem e_is_kindG {v : D} {h : Hm} (o : okKd v) : d_is_kind [v] h = .ok (.bl (isKindD v)) h := by
  refine den_TR rfl ?_ ⟨v, rfl, o, rfl⟩ ?_
  · rintro v' ⟨v2, e, _, rfl⟩
    rw [in1 e]
  · have o1 := o.1
    have no : ∀ {u : D}, (∀ xs, u ≠ .tup xs) → isKindD u = false := fun {u} hu => isKindD_false fun k e _ => by
      cases k <;> exact hu _ e
    cases v
    case tup xs =>
      obtain ⟨ox, os⟩ := o.2 xs rfl
      match xs, ox, os with
      | [], _, _ =>
        fail "mini x_is_kind"
        rw [isKindD_false fun k e _ => by have := kdD_len e; simp at this]
        exact .refl
      | [a], _, _ =>
        fail "mini x_is_kind"
        rw [isKindD_false fun k e _ => by have := kdD_len e; simp at this]
        exact .refl
      | a :: b :: c :: d :: r, _, _ =>
        have nl : ∀ k, D.tup (a :: b :: c :: d :: r) = kdD k → False := fun k e => by
          have := kdD_len e
          simp only [List.length_cons] at this
          omega
        have l2 : decide (((a :: b :: c :: d :: r).length : Int) = 2) = false := decide_eq_false (by simp only [List.length_cons]; omega)
        have l3 : decide (((a :: b :: c :: d :: r).length : Int) = 3) = false := decide_eq_false (by simp only [List.length_cons]; omega)
        rw [isKindD_false fun k e _ => nl k e]
        generalize hx : a :: b :: c :: d :: r = xs at *
        fail "mini x_is_kind"
        rw [l2]
        fail "mini x_is_kind"
        rw [l3]
        fail "mini x_is_kind"
        exact .refl
      | [a, b], ox, os =>
        have oa := ox a (by simp)
        have ob := ox b (by simp)
        by_cases ha : ∃ w, a = .str w
        · obtain ⟨w, rfl⟩ := ha
          have sw := os w rfl
          by_cases hw : w = Str.ofString "word"
          · subst hw
            fail "mini x_is_kind"
            rw [e_are_wordsG ob.2, kind_word ob.2]
            exact .refl
          · rw [isKindD_false fun k e _ => hw (by have := kdD_two e; injection this)]
            fail "mini x_is_kind"
            rw [sw, decide_eq_false hw]
            fail "mini x_is_kind"
            exact .refl
        · rw [isKindD_false fun k e _ => ha ⟨_, kdD_two e⟩]
          have oa1 := oa.1
          cases a <;> first | exact Bool.noConfusion oa1 | exact absurd ⟨_, rfl⟩ ha | (fail "mini x_is_kind"; exact .refl)
      | [a, b, c], ox, os =>
        have oa := ox a (by simp)
        have ob := ox b (by simp)
        have oc := ox c (by simp)
        by_cases ha : ∃ w, a = .str w
        · obtain ⟨w, rfl⟩ := ha
          have sw := os w rfl
          by_cases hw : w = Str.ofString "number"
          · subst hw
            fail "mini x_is_kind"
            rw [e_is_between ob.1]
            fail "mini x_is_kind"
            cases hb : btw (-1000) b 1000 with
            | false =>
              rw [isKindD_false fun k e ok => by
                obtain ⟨lo, hi, _, rfl, rfl, rfl⟩ := kdD_three e
                obtain ⟨o1, o2, _⟩ := ok
                rw [btw_int, decide_eq_true o1, decide_eq_true o2] at hb
                cases hb]
              fail "mini x_is_kind"
              exact .refl
            | true =>
              fail "mini x_is_kind"
              rw [e_is_between oc.1]
              fail "mini x_is_kind"
              cases hc : btw (-1000) c 1000 with
              | false =>
                rw [isKindD_false fun k e ok => by
                  obtain ⟨lo, hi, _, rfl, rfl, rfl⟩ := kdD_three e
                  obtain ⟨_, _, o1, o2, _⟩ := ok
                  rw [btw_int, decide_eq_true o1, decide_eq_true o2] at hc
                  cases hc]
                fail "mini x_is_kind"
                exact .refl
              | true =>
                obtain ⟨lo, rfl, b1, b2⟩ := btw_of hb
                obtain ⟨hi, rfl, c1, c2⟩ := btw_of hc
                fail "mini x_is_kind"
                have e : isKindD (.tup [.str (Str.ofString "number"), .int lo, .int hi]) = (decide (0 ≤ hi - lo) && decide (hi - lo ≤ 30)) := by
                  by_cases q : 0 ≤ hi - lo ∧ hi - lo ≤ 30
                  · rw [decide_eq_true q.1, decide_eq_true q.2]
                    exact isKindD_true (k := .num lo hi) ⟨b1, b2, c1, c2, q.1, q.2⟩
                  · rw [isKindD_false fun k e ok => by
                      obtain ⟨lo', hi', _, e1, e2, rfl⟩ := kdD_three e
                      injection e1 with e1
                      injection e2 with e2
                      subst e1 e2
                      exact q ⟨ok.2.2.2.2.1, ok.2.2.2.2.2⟩]
                    rw [← Bool.decide_and]
                    exact (decide_eq_false q).symm
                rw [e]
                exact .refl
          · rw [isKindD_false fun k e _ => hw (by obtain ⟨_, _, e1, _⟩ := kdD_three e; injection e1)]
            fail "mini x_is_kind"
            rw [sw, decide_eq_false hw]
            fail "mini x_is_kind"
            exact .refl
        · rw [isKindD_false fun k e _ => ha (by obtain ⟨_, _, e1, _⟩ := kdD_three e; exact ⟨_, e1⟩)]
          have oa1 := oa.1
          cases a <;> first | exact Bool.noConfusion oa1 | exact absurd ⟨_, rfl⟩ ha | (fail "mini x_is_kind"; exact .refl)
    all_goals first
      | exact Bool.noConfusion o1
      | (rw [no (by intro xs z; cases z)]; fail "mini x_is_kind"; simp only [tupN_non, tupN_bl, tupN_int, tupN_str, tupN_lst]; fail "mini x_is_kind"; exact .refl)
theorem okKd_of {k : Kd} (o : KdOk k) : okKd (kdD k) := by
  cases k with
  | num lo hi =>
    refine ⟨rfl, fun xs e => ?_⟩
    unfold kdD at e
    injection e with e
    subst e
    refine ⟨fun x hx => ?_, fun x e => by cases e; exact ok_lit⟩
    have hx : x = .str (Str.ofString "number") ∨ x = .int lo ∨ x = .int hi := by simpa using hx
    rcases hx with rfl | rfl | rfl <;> exact ⟨rfl, rfl, fun xs z => by cases z⟩
  | wrd ws =>
    obtain ⟨o1, o2, o3, o4⟩ := o
    refine ⟨rfl, fun xs e => ?_⟩
    unfold kdD at e
    injection e with e
    subst e
    refine ⟨fun x hx => ?_, fun x e => by cases e; exact ok_lit⟩
    have hx : x = .str (Str.ofString "word") ∨ x = .tup (ws.map .str) := by simpa using hx
    rcases hx with rfl | rfl
    · exact ⟨rfl, rfl, fun xs z => by cases z⟩
    · exact ⟨rfl, okWs_words (by omega) o3⟩
theorem e_is_kind {k : Kd} {h : Hm} (o : KdOk k) : d_is_kind [kdD k] h = .ok (.bl true) h := by
  rw [e_is_kindG (okKd_of o), isKindD_true o]
/-! has_words, values_of -/
def isW : Kd → Bool
  | .num _ _ => false
  | .wrd _ => true
def P_has_words : List D → D → Prop := fun ds r => ∃ c : Col, ds = [colD c] ∧ r = .bl (isW c.kd)
noncomputable def G_has_words : Gam := gamL [] []
theorem N_has_words : c_has_words.N = (["column"] : List Str) := rfl
noncomputable def d_has_words : List D → Hm → Res D := denT G_has_words c_has_words.N 1 b_has_words (TR P_has_words)
theorem sp_has_words {ds : List D} {h : Hm} (hl : ds.length = 1) (w : wpB G_has_words b_has_words (startD c_has_words.N ds) h (PoT (TR P_has_words) ds h)) : ∃ r h2, d_has_words ds h = .ok r h2 ∧ (TR P_has_words) ds h r h2 := denT_ok hl w
theorem ub_has_words {Γ : Gam} {σ : Sg} {h : Hm} {P : Po} : wpB Γ b_has_words σ h P = wpB Γ (.cons (.ret (.cmp .eq (.ix (.ix (.v 0) (.int 1)) (.int 0)) (.str "word"))) .nil) σ h P := rfl
local macro_rules | `(tactic| fail "mini u_has_words") => `(tactic| simp only [N_has_words, opn_tup, opn_lst, opn_int, opn_str, opn_bl, opn_non, eq_self, ub_has_words])
local macro_rules | `(tactic| fail "mini x_has_words") => `(tactic| repeat (first | fail "mini fw" | fail "mini u_has_words" | fail "mini fxx"))
theorem e_has_words {c : Col} {h : Hm} : d_has_words [colD c] h = .ok (.bl (isW c.kd)) h := by
  refine den_TR rfl ?_ ⟨c, rfl, rfl⟩ ?_
  · rintro v' ⟨c', e, rfl⟩
    rw [colD_inj (in1 e)]
  · obtain ⟨nm, kd⟩ := c
    cases kd <;> (unfold colD kdD; fail "mini x_has_words"; exact .refl)
def P_values_of : List D → D → Prop := fun ds r => ∃ c : Col, ds = [colD c] ∧ KdOk c.kd ∧ r = .tup (valsD c.kd)
noncomputable def G_values_of : Gam := gamL [(n_has_words, d_has_words)] []
theorem cg_values_of_has_words {ds : List D} {h : Hm} : callG G_values_of n_has_words ds h = d_has_words ds h := rfl
theorem N_values_of : c_values_of.N = (["column", "kind"] : List Str) := rfl
noncomputable def d_values_of : List D → Hm → Res D := denT G_values_of c_values_of.N 1 b_values_of (TR P_values_of)
theorem sp_values_of {ds : List D} {h : Hm} (hl : ds.length = 1) (w : wpB G_values_of b_values_of (startD c_values_of.N ds) h (PoT (TR P_values_of) ds h)) : ∃ r h2, d_values_of ds h = .ok r h2 ∧ (TR P_values_of) ds h r h2 := denT_ok hl w
theorem ub_values_of_2 {Γ : Gam} {σ : Sg} {h : Hm} {P : Po} : wpB Γ b_values_of_2 σ h P = wpB Γ (.cons (.ret (.ifx (.call n_has_words (.cons (.v 0) .nil)) (.ix (.v 1) (.int 1)) (.rngs false (.ix (.v 1) (.int 1)) (.op2 .add (.ix (.v 1) (.int 2)) (.int 1))))) .nil) σ h P := rfl
theorem ub_values_of {Γ : Gam} {σ : Sg} {h : Hm} {P : Po} : wpB Γ b_values_of σ h P = wpB Γ (.cons (.set 1 (.ix (.v 0) (.int 1))) b_values_of_2) σ h P := rfl
local macro_rules | `(tactic| fail "mini u_values_of") => `(tactic| simp only [N_values_of, cg_values_of_has_words, e_has_words, opn_tup, opn_lst, opn_int, opn_str, opn_bl, opn_non, eq_self, ub_values_of_2, ub_values_of])
local macro_rules | `(tactic| fail "mini x_values_of") => `(tactic| repeat (first | fail "mini fw" | fail "mini u_values_of" | fail "mini fxx"))
theorem colD_eq (c : Col) : colD c = .tup [.str c.nm, kdD c.kd] := rfl
theorem kdD_num (lo hi : Int) : kdD (.num lo hi) = .tup [.str "number", .int lo, .int hi] := rfl
theorem kdD_wrd (ws : List Str) : kdD (.wrd ws) = .tup [.str "word", .tup (ws.map .str)] := rfl
theorem rgOk_small {i j : Int} (h1 : -1000000 ≤ i) (h2 : i ≤ 1000000) (h3 : -1000000 ≤ j) (h4 : j ≤ 1000000) : rgOkB i j = true := by
  unfold rgOkB
  rw [smallI_mk (i := i) (by omega) (by omega), smallI_mk (i := j) (by omega) (by omega), decide_eq_true (show (j - i).toNat ≤ LIM by show _ ≤ 16777216; omega)]
  rfl
theorem e_values_of {c : Col} {h : Hm} (o : KdOk c.kd) : d_values_of [colD c] h = .ok (.tup (valsD c.kd)) h := by
  refine den_TR rfl ?_ ⟨c, rfl, o, rfl⟩ ?_
  · rintro v' ⟨c', e, _, rfl⟩
    rw [colD_inj (in1 e)]
  · have hw := e_has_words (c := c) (h := h)
    obtain ⟨nm, kd⟩ := c
    cases kd with
    | num lo hi =>
      obtain ⟨o1, o2, o3, o4, o5, o6⟩ := o
      rw [colD_eq, kdD_num] at hw ⊢
      fail "mini x_values_of"
      rw [hw]
      fail "mini x_values_of"
      rw [rgOk_small (by omega) (by omega) (by omega) (by omega)]
      exact .refl
    | wrd ws =>
      rw [colD_eq, kdD_wrd] at hw ⊢
      fail "mini x_values_of"
      rw [hw]
      exact .refl
/-! count_over -/
def P_count_over : List D → D → Prop := fun ds r => ∃ cs : List Col, ds = [colsD cs] ∧ (∀ c ∈ cs, KdOk c.kd) ∧ cs.length ≤ 4 ∧ r = .int (countC cs)
noncomputable def G_count_over : Gam := gamL [(n_values_of, d_values_of)] []
theorem cg_count_over_values_of {ds : List D} {h : Hm} : callG G_count_over n_values_of ds h = d_values_of ds h := rfl
theorem N_count_over : c_count_over.N = (["columns", "found", "column"] : List Str) := rfl
noncomputable def d_count_over : List D → Hm → Res D := denT G_count_over c_count_over.N 1 b_count_over (TR P_count_over)
theorem sp_count_over {ds : List D} {h : Hm} (hl : ds.length = 1) (w : wpB G_count_over b_count_over (startD c_count_over.N ds) h (PoT (TR P_count_over) ds h)) : ∃ r h2, d_count_over ds h = .ok r h2 ∧ (TR P_count_over) ds h r h2 := denT_ok hl w
theorem ub_count_over_4 {Γ : Gam} {σ : Sg} {h : Hm} {P : Po} : wpB Γ b_count_over_4 σ h P = wpB Γ (.cons (.set 1 (.op2 .mul (.v 1) (.bi .len (.cons (.call n_values_of (.cons (.v 2) .nil)) .nil)))) .nil) σ h P := rfl
theorem ub_count_over_3 {Γ : Gam} {σ : Sg} {h : Hm} {P : Po} : wpB Γ b_count_over_3 σ h P = wpB Γ (.cons (.ret (.v 1)) .nil) σ h P := rfl
theorem ub_count_over_2 {Γ : Gam} {σ : Sg} {h : Hm} {P : Po} : wpB Γ b_count_over_2 σ h P = wpB Γ (.cons (.for_ (.v 2) (.ex (.v 0)) b_count_over_4) b_count_over_3) σ h P := rfl
theorem ub_count_over {Γ : Gam} {σ : Sg} {h : Hm} {P : Po} : wpB Γ b_count_over σ h P = wpB Γ (.cons (.set 1 (.int 1)) b_count_over_2) σ h P := rfl
local macro_rules | `(tactic| fail "mini u_count_over") => `(tactic| simp only [N_count_over, cg_count_over_values_of, e_values_of, opn_tup, opn_lst, opn_int, opn_str, opn_bl, opn_non, eq_self, ub_count_over_4, ub_count_over_3, ub_count_over_2, ub_count_over])
local macro_rules | `(tactic| fail "mini x_count_over") => `(tactic| repeat (first | fail "mini fw" | fail "mini u_count_over" | fail "mini fxx"))
theorem vals_len {k : Kd} (o : KdOk k) : 1 ≤ (valsD k).length ∧ (valsD k).length ≤ 31 := by
  cases k with
  | num lo hi =>
    obtain ⟨o1, o2, o3, o4, o5, o6⟩ := o
    show 1 ≤ (rngD lo _).length ∧ (rngD lo _).length ≤ 31
    rw [rngD_length]
    omega
  | wrd ws =>
    obtain ⟨o1, o2, o3, o4⟩ := o
    show 1 ≤ (ws.map D.str).length ∧ (ws.map D.str).length ≤ 31
    rw [List.length_map]
    omega
theorem e_count_over {cs : List Col} {h : Hm} (o : ∀ c ∈ cs, KdOk c.kd) (l : cs.length ≤ 4) : d_count_over [colsD cs] h = .ok (.int (countC cs)) h := by
  refine den_TR rfl ?_ ⟨cs, rfl, o, l, rfl⟩ ?_
  · rintro v' ⟨c', e, _, _, rfl⟩
    rw [colsD_inj (in1 e)]
  · unfold colsD
    fail "mini x_count_over"
    refine L_for (fun i σ h2 => h2 = h ∧ ∃ x, σ = [some (D.tup (cs.map colD)), some (D.int (countC (cs.take i))), x]) ⟨rfl, none, rfl⟩ ?_ ?_
    · rintro i d σ h2 hi ⟨rfl, x, rfl⟩
      rw [List.getElem?_map] at hi
      cases hc : cs[i]? with
      | none => rw [hc] at hi; cases hi
      | some c =>
        rw [hc] at hi
        cases hi
        have hm : c ∈ cs := List.mem_of_getElem? hc
        refine ⟨_, rfl, ?_⟩
        fail "mini x_count_over"
        rw [e_values_of (o c hm)]
        fail "mini x_count_over"
        have vl := vals_len (o c hm)
        rw [mulOk_r (by omega) (by omega)]
        fail "mini x_count_over"
        refine ⟨trivial, some (colD c), ?_⟩
        have e : countC (cs.take (i + 1)) = countC (cs.take i) * (valsD c.kd).length := by
          unfold countC
          rw [List.take_succ, hc, List.foldl_append]
          rfl
        rw [e, Int.natCast_mul]
    · rintro σ h2 ⟨rfl, x, rfl⟩
      rw [List.length_map, List.take_length]
      fail "mini x_count_over"
      exact .refl
/-! is_columns -/
open Classical in
noncomputable def isCols (v : D) : Bool := decide (∃ cs : List Col, v = colsD cs ∧ ColsOk cs)
open Classical in
theorem isCols_true {cs : List Col} (o : ColsOk cs) : isCols (colsD cs) = true := by
  unfold isCols
  exact decide_eq_true ⟨cs, rfl, o⟩
open Classical in
theorem isCols_false {v : D} (h : ∀ cs : List Col, v = colsD cs → ColsOk cs → False) : isCols v = false := by
  unfold isCols
  exact decide_eq_false fun ⟨k, e, o⟩ => h k e o
def okCol (c : D) : Prop := opn c = true ∧ ∀ ys, c = .tup ys → ∀ y ∈ ys, opn y = true ∧ smallS y = true ∧ okKd y ∧ ∀ n, belowD n y = true
def okCl (v : D) : Prop := opn v = true ∧ ∀ xs, v = .tup xs → xs.length ≤ 1000 ∧ ∀ x ∈ xs, okCol x
noncomputable def colB (c : D) : Bool := match c with
  | .tup [_, b] => isKindD b
  | _ => false
open Classical in
theorem colB_of {c : D} (h : colB c = true) : ∃ a k, c = .tup [a, kdD k] ∧ KdOk k := by
  unfold colB at h
  split at h
  · rename_i a b
    unfold isKindD at h
    obtain ⟨k, rfl, o⟩ := of_decide_eq_true h
    exact ⟨a, k, rfl, o⟩
  · cases h
theorem colB_col {c : Col} (o : KdOk c.kd) : colB (colD c) = true := isKindD_true o
theorem kinds_of : ∀ {vs : List D}, vs.all colB = true → ∃ ps : List (D × Kd), vs = ps.map (fun p => .tup [p.1, kdD p.2]) ∧ ∀ p ∈ ps, KdOk p.2
  | [], _ => ⟨[], rfl, fun p h => by cases h⟩
  | v :: vs, h => by
    rw [List.all_cons, Bool.and_eq_true] at h
    obtain ⟨a, k, rfl, o⟩ := colB_of h.1
    obtain ⟨ps, rfl, q⟩ := kinds_of h.2
    refine ⟨(a, k) :: ps, rfl, fun p hp => ?_⟩
    rcases List.mem_cons.mp hp with rfl | hp
    · exact o
    · exact q p hp
theorem named_of : ∀ {ps : List (D × Kd)}, (ps.map (·.1)).all isWordD = true → (∀ p ∈ ps, KdOk p.2) → ∃ cs : List Col, ps.map (fun p => D.tup [p.1, kdD p.2]) = cs.map colD ∧ (∀ c ∈ cs, KdOk c.kd) ∧ (∀ c ∈ cs, wordOk c.nm = true) ∧ cs.map (·.nm) = (ps.map (·.1)).map asStr ∧ cs.length = ps.length
  | [], _, _ => ⟨[], rfl, (fun p h => by cases h), (fun p h => by cases h), rfl, rfl⟩
  | p :: ps, h, o => by
    rw [List.map_cons, List.all_cons, Bool.and_eq_true] at h
    obtain ⟨cs, e1, e2, e3, e4, e5⟩ := named_of h.2 fun q hq => o q (List.mem_cons_of_mem _ hq)
    obtain ⟨a, k⟩ := p
    have h1 := h.1
    cases a <;> first | exact Bool.noConfusion h1 | skip
    rename_i x
    refine ⟨⟨x, k⟩ :: cs, ?_, fun c hc => ?_, fun c hc => ?_, ?_, ?_⟩
    · rw [List.map_cons, List.map_cons, e1]
      rfl
    · rcases List.mem_cons.mp hc with rfl | hc
      · exact o (D.str x, k) List.mem_cons_self
      · exact e2 c hc
    · rcases List.mem_cons.mp hc with rfl | hc
      · exact h1
      · exact e3 c hc
    · rw [List.map_cons, List.map_cons, List.map_cons, e4]
      rfl
    · rw [List.length_cons, List.length_cons, e5]
def P_is_columns : List D → D → Prop := fun ds r => ∃ v : D, ds = [v] ∧ okCl v ∧ r = .bl (isCols v)
noncomputable def G_is_columns : Gam := gamL [(n_is_tuple_of, d_is_tuple_of), (n_are_words, d_are_words), (n_is_kind, d_is_kind), (n_count_over, d_count_over)] [(0, .int 4), (4, .int 10000)]
theorem cg_is_columns_is_tuple_of {ds : List D} {h : Hm} : callG G_is_columns n_is_tuple_of ds h = d_is_tuple_of ds h := rfl
theorem cg_is_columns_are_words {ds : List D} {h : Hm} : callG G_is_columns n_are_words ds h = d_are_words ds h := rfl
theorem cg_is_columns_is_kind {ds : List D} {h : Hm} : callG G_is_columns n_is_kind ds h = d_is_kind ds h := rfl
theorem cg_is_columns_count_over {ds : List D} {h : Hm} : callG G_is_columns n_count_over ds h = d_count_over ds h := rfl
theorem gl_is_columns_0 {h : Hm} : globG G_is_columns 0 h = .ok (.int 4) h := rfl
theorem gl_is_columns_4 {h : Hm} : globG G_is_columns 4 h = .ok (.int 10000) h := rfl
theorem N_is_columns : c_is_columns.N = (["value", "column"] : List Str) := rfl
noncomputable def d_is_columns : List D → Hm → Res D := denT G_is_columns c_is_columns.N 1 b_is_columns (TR P_is_columns)
theorem sp_is_columns {ds : List D} {h : Hm} (hl : ds.length = 1) (w : wpB G_is_columns b_is_columns (startD c_is_columns.N ds) h (PoT (TR P_is_columns) ds h)) : ∃ r h2, d_is_columns ds h = .ok r h2 ∧ (TR P_is_columns) ds h r h2 := denT_ok hl w
theorem ub_is_columns_4 {Γ : Gam} {σ : Sg} {h : Hm} {P : Po} : wpB Γ b_is_columns_4 σ h P = wpB Γ (.cons (.ret (.bl false)) .nil) σ h P := rfl
theorem ub_is_columns_5 {Γ : Gam} {σ : Sg} {h : Hm} {P : Po} : wpB Γ b_is_columns_5 σ h P = wpB Γ (.cons (.ret (.bl false)) .nil) σ h P := rfl
theorem ub_is_columns_3 {Γ : Gam} {σ : Sg} {h : Hm} {P : Po} : wpB Γ b_is_columns_3 σ h P = wpB Γ (.cons (.ret (.band (.call n_are_words (.cons (.glob 0) (.cons (.bi .tuple (.cons (.comp false [("column", 1)] (.v 1) (.ex (.v 0)) .nil (.ix (.v 1) (.int 0))) .nil)) .nil))) (.cmp .le (.call n_count_over (.cons (.v 0) .nil)) (.glob 4)))) .nil) σ h P := rfl
theorem ub_is_columns_2 {Γ : Gam} {σ : Sg} {h : Hm} {P : Po} : wpB Γ b_is_columns_2 σ h P = wpB Γ (.cons (.ife (.bnot (.bi .all (.cons (.comp false [("column", 1)] (.v 1) (.ex (.v 0)) .nil (.band (.call n_is_tuple_of (.cons (.int 2) (.cons (.v 1) .nil))) (.call n_is_kind (.cons (.ix (.v 1) (.int 1)) .nil)))) .nil))) b_is_columns_5 .nil) b_is_columns_3) σ h P := rfl
theorem ub_is_columns {Γ : Gam} {σ : Sg} {h : Hm} {P : Po} : wpB Γ b_is_columns σ h P = wpB Γ (.cons (.ife (.bor (.bnot (.isi (.v 0) .tuple)) (.bnot (.chain .le .le (.int 1) (.bi .len (.cons (.v 0) .nil)) (.glob 0)))) b_is_columns_4 .nil) b_is_columns_2) σ h P := rfl
local macro_rules | `(tactic| fail "mini u_is_columns") => `(tactic| simp only [N_is_columns, cg_is_columns_is_tuple_of, cg_is_columns_are_words, cg_is_columns_is_kind, cg_is_columns_count_over, gl_is_columns_0, gl_is_columns_4, e_is_tuple_of, e_are_words, e_is_kind, e_count_over, opn_tup, opn_lst, opn_int, opn_str, opn_bl, opn_non, eq_self, ub_is_columns_4, ub_is_columns_5, ub_is_columns_3, ub_is_columns_2, ub_is_columns])
local macro_rules | `(tactic| fail "mini x_is_columns") => `(tactic| repeat (first | fail "mini fw" | fail "mini u_is_columns" | fail "mini fxx"))
theorem e_is_columnsG {v : D} {h : Hm} (o : okCl v) : d_is_columns [v] h = .ok (.bl (isCols v)) h := by
  refine den_TR rfl ?_ ⟨v, rfl, o, rfl⟩ ?_
  · rintro v' ⟨v2, e, _, rfl⟩
    rw [in1 e]
  · have o1 := o.1
    cases v
    case tup vs =>
      obtain ⟨l, ox⟩ := o.2 vs rfl
      cases hl : (decide ((1 : Int) ≤ vs.length) && decide ((vs.length : Int) ≤ 4)) with
      | false =>
        rw [isCols_false fun cs e oc => by
          unfold colsD at e
          injection e with e
          have h1 := oc.one
          have h4 := oc.four
          rw [e, List.length_map, decide_eq_true (show (1 : Int) ≤ cs.length by omega), decide_eq_true (show (cs.length : Int) ≤ 4 by omega)] at hl
          cases hl]
        fail "mini x_is_columns"
        rw [hl]
        fail "mini x_is_columns"
        exact .refl
      | true =>
        fail "mini x_is_columns"
        rw [hl]
        fail "mini x_is_columns"
        have lenN : vs.length ≤ LIM := Nat.le_trans l (by decide)
        rw [compR_map (fun c => .bl (colB c)) (fun c hc t => ⟨_, rfl, ?_⟩) lenN (fun _ _ => rfl), Res.bind_ok, all_bl]
        · cases ha : vs.all colB with
          | false =>
            rw [isCols_false fun cs e oc => by
              unfold colsD at e
              injection e with e
              rw [e, List.all_map] at ha
              have : cs.all (colB ∘ colD) = true := List.all_eq_true.mpr fun c hc => colB_col (oc.kd c hc)
              rw [this] at ha
              cases ha]
            fail "mini x_is_columns"
            exact .refl
          | true =>
            obtain ⟨ps, rfl, ok⟩ := kinds_of ha
            fail "mini x_is_columns"
            rw [compR_enc ps (fun p => D.tup [p.1, kdD p.2]) (fun p => p.1) (fun p hp t => ⟨_, rfl, ?_⟩) (by rw [List.length_map] at l; omega) (fun p hp => ?_)]
            · fail "mini x_is_columns"
              have own : ∀ x ∈ ps.map (·.1), opn x = true ∧ smallS x = true := fun x hx => by
                obtain ⟨p, hp, rfl⟩ := List.mem_map.mp hx
                have := (ox _ (List.mem_map.mpr ⟨p, hp, rfl⟩)).2 _ rfl p.1 (by simp)
                exact ⟨this.1, this.2.1⟩
              have ow : okWs (.tup (ps.map (·.1))) := ⟨rfl, fun xs e => by
                injection e with e
                subst e
                exact ⟨by rw [List.length_map] at l ⊢; exact l, own⟩⟩
              rw [e_are_wordsG ow, areWordsD_tup]
              have l14 : (decide ((1 : Int) ≤ (ps.map (·.1)).length) && decide (((ps.map (·.1)).length : Int) ≤ 4)) = true := by
                rw [List.length_map] at hl ⊢
                exact hl
              rw [l14, Bool.true_and]
              cases hw : ((ps.map (·.1)).all isWordD && decide (((ps.map (·.1)).map asStr).Nodup)) with
              | false =>
                rw [isCols_false fun cs e oc => by
                  have e1 : ps.map (fun p => D.tup [p.1, kdD p.2]) = cs.map colD := by
                    unfold colsD at e
                    injection e
                  have e2 : ps.map (·.1) = cs.map fun c => D.str c.nm := by
                    have := congrArg (List.map fun v : D => match v with | .tup (a :: _) => a | _ => .non) e1
                    rw [List.map_map, List.map_map] at this
                    exact this
                  rw [e2, show (cs.map fun c => D.str c.nm) = (cs.map (·.nm)).map D.str by rw [List.map_map]; rfl, asStr_map, decide_eq_true oc.nd, show ((cs.map (·.nm)).map D.str).all isWordD = true from List.all_eq_true.mpr fun v hv => by
                    obtain ⟨w, hm, rfl⟩ := List.mem_map.mp hv
                    obtain ⟨c, hc, rfl⟩ := List.mem_map.mp hm
                    exact oc.nm c hc] at hw
                  cases hw]
                fail "mini x_is_columns"
                exact .refl
              | true =>
                rw [Bool.and_eq_true] at hw
                obtain ⟨cs, e1, e2, e3, e4, e5⟩ := named_of hw.1 ok
                have l4 : ps.length ≤ 4 ∧ 1 ≤ ps.length := by
                  rw [Bool.and_eq_true, List.length_map] at l14
                  exact ⟨by have := of_decide_eq_true l14.2; omega, by have := of_decide_eq_true l14.1; omega⟩
                rw [e1]
                have ec := e_count_over (cs := cs) (h := h) e2 (by omega)
                unfold colsD at ec
                fail "mini x_is_columns"
                rw [ec]
                fail "mini x_is_columns"
                have fin : isCols (.tup (cs.map colD)) = decide (((countC cs : Nat) : Int) ≤ 10000) := by
                  by_cases q : countC cs ≤ 10000
                  · rw [decide_eq_true (show ((countC cs : Nat) : Int) ≤ 10000 by omega)]
                    exact isCols_true ⟨by omega, by omega, e2, e3, by rw [e4]; exact of_decide_eq_true hw.2, q⟩
                  · rw [decide_eq_false (show ¬ ((countC cs : Nat) : Int) ≤ 10000 by omega)]
                    exact isCols_false fun cs' e oc => by
                      have : cs = cs' := colsD_inj (a := cs) (b := cs') e
                      subst this
                      exact q oc.few
                rw [fin]
                exact .refl
            · fail "mini x_is_columns"
            · exact ((ox _ (List.mem_map.mpr ⟨p, hp, rfl⟩)).2 _ rfl p.1 (by simp)).2.2.2 _
        · have hc2 := ox c hc
          have hc1 := hc2.1
          cases c
          case tup ys =>
            match ys, hc2 with
            | [], _ =>
              fail "mini x_is_columns"
              rfl
            | [a], _ =>
              fail "mini x_is_columns"
              rfl
            | a :: b :: c :: r, _ =>
              have l2 : decide (((a :: b :: c :: r).length : Int) = 2) = false := decide_eq_false (by simp only [List.length_cons]; omega)
              have cb : colB (.tup (a :: b :: c :: r)) = false := rfl
              rw [cb]
              generalize hx : a :: b :: c :: r = xs at *
              fail "mini x_is_columns"
              rw [l2]
              fail "mini x_is_columns"
            | [a, b], hc2 =>
              have ob := (hc2.2 _ rfl b (by simp)).2.2.1
              fail "mini x_is_columns"
              rw [e_is_kindG ob]
              rfl
          all_goals first
            | exact Bool.noConfusion hc1
            | (fail "mini x_is_columns"; simp only [tupN_non, tupN_bl, tupN_int, tupN_str, tupN_lst]; fail "mini x_is_columns"; rfl)
    all_goals first
      | exact Bool.noConfusion o1
      | (rw [isCols_false fun cs e _ => by cases e]; fail "mini x_is_columns"; exact .refl)
theorem okCl_of {cs : List Col} (o : ColsOk cs) : okCl (colsD cs) := by
  refine ⟨rfl, fun xs e => ?_⟩
  unfold colsD at e
  injection e with e
  subst e
  refine ⟨by rw [List.length_map]; have := o.four; omega, fun x hx => ?_⟩
  obtain ⟨c, hc, rfl⟩ := List.mem_map.mp hx
  refine ⟨rfl, fun ys e y hy => ?_⟩
  unfold colD at e
  injection e with e
  subst e
  have hy : y = .str c.nm ∨ y = kdD c.kd := by simpa using hy
  rcases hy with rfl | rfl
  · exact ⟨rfl, decide_eq_true (by have := word_len (o.nm c hc); omega), ⟨rfl, fun xs z => by cases z⟩, fun _ => rfl⟩
  · have ok := okKd_of (o.kd c hc)
    refine ⟨ok.1, ?_, ok, fun n => ?_⟩
    · cases c.kd <;> rfl
    · cases c.kd with
      | num lo hi => rfl
      | wrd ws =>
        show (true && (belowDs n (ws.map .str) && true)) = true
        rw [show belowDs n (ws.map D.str) = true from bk_str (f := fun x => x) ws]
        rfl
theorem e_is_columns {cs : List Col} {h : Hm} (o : ColsOk cs) : d_is_columns [colsD cs] h = .ok (.bl true) h := by
  rw [e_is_columnsG (okCl_of o), isCols_true o]
def P_check_columns : List D → D → Prop := fun ds r => ∃ cs : List Col, ds = [colsD cs] ∧ ColsOk cs ∧ r = .non
noncomputable def G_check_columns : Gam := gamL [(n_is_columns, d_is_columns)] []
theorem cg_check_columns_is_columns {ds : List D} {h : Hm} : callG G_check_columns n_is_columns ds h = d_is_columns ds h := rfl
theorem N_check_columns : c_check_columns.N = (["columns"] : List Str) := rfl
noncomputable def d_check_columns : List D → Hm → Res D := denT G_check_columns c_check_columns.N 1 b_check_columns (TR P_check_columns)
theorem sp_check_columns {ds : List D} {h : Hm} (hl : ds.length = 1) (w : wpB G_check_columns b_check_columns (startD c_check_columns.N ds) h (PoT (TR P_check_columns) ds h)) : ∃ r h2, d_check_columns ds h = .ok r h2 ∧ (TR P_check_columns) ds h r h2 := denT_ok hl w
theorem ub_check_columns_2 {Γ : Gam} {σ : Sg} {h : Hm} {P : Po} : wpB Γ b_check_columns_2 σ h P = wpB Γ (.cons .never .nil) σ h P := rfl
theorem ub_check_columns {Γ : Gam} {σ : Sg} {h : Hm} {P : Po} : wpB Γ b_check_columns σ h P = wpB Γ (.cons (.ife (.bnot (.call n_is_columns (.cons (.v 0) .nil))) b_check_columns_2 .nil) .nil) σ h P := rfl
local macro_rules | `(tactic| fail "mini u_check_columns") => `(tactic| simp only [N_check_columns, cg_check_columns_is_columns, e_is_columns, opn_tup, opn_lst, opn_int, opn_str, opn_bl, opn_non, eq_self, ub_check_columns_2, ub_check_columns])
local macro_rules | `(tactic| fail "mini x_check_columns") => `(tactic| repeat (first | fail "mini fw" | fail "mini u_check_columns" | fail "mini fxx"))
theorem e_check_columns {cs : List Col} {h : Hm} (o : ColsOk cs) : d_check_columns [colsD cs] h = .ok .non h := by
  refine den_TR rfl (by rintro v' ⟨_, _, _, rfl⟩; rfl) ⟨cs, rfl, o, rfl⟩ ?_
  fail "mini x_check_columns"
  rw [e_is_columns o]
  fail "mini x_check_columns"
  exact .refl
/-! values, rows -/
def isVal (k : Kd) (v : D) : Bool := match k with
  | .num lo hi => btw lo v hi
  | .wrd ws => match v with
    | .str x => decide (x ∈ ws)
    | _ => false
theorem isW_num {lo hi : Int} : isW (.num lo hi) = false := by simp [isW]
theorem isW_wrd {ws : List Str} : isW (.wrd ws) = true := by simp [isW]
theorem any_str (x : Str) : ∀ ws : List Str, ((ws.map D.str).any fun y => eqFD y (.str x)) = decide (x ∈ ws)
  | [] => by simp
  | w :: ws => by
    rw [List.map_cons, List.any_cons, any_str x ws, eqFD_str, ← Bool.decide_or]
    exact decide_eq_decide.mpr (by rw [List.mem_cons]; exact ⟨fun z => z.imp Eq.symm id, fun z => z.imp Eq.symm id⟩)
theorem all_flat : ∀ ws : List Str, (ws.map D.str).all flatD = true
  | [] => rfl
  | w :: ws => by rw [List.map_cons, List.all_cons, all_flat ws] <;> rfl
def P_is_value : List D → D → Prop := fun ds r => ∃ (c : Col) (v : D), ds = [colD c, v] ∧ opn v = true ∧ r = .bl (isVal c.kd v)
noncomputable def G_is_value : Gam := gamL [(n_is_between, d_is_between), (n_has_words, d_has_words)] []
theorem cg_is_value_is_between {ds : List D} {h : Hm} : callG G_is_value n_is_between ds h = d_is_between ds h := rfl
theorem cg_is_value_has_words {ds : List D} {h : Hm} : callG G_is_value n_has_words ds h = d_has_words ds h := rfl
theorem N_is_value : c_is_value.N = (["column", "value"] : List Str) := rfl
noncomputable def d_is_value : List D → Hm → Res D := denT G_is_value c_is_value.N 2 b_is_value (TR P_is_value)
theorem sp_is_value {ds : List D} {h : Hm} (hl : ds.length = 2) (w : wpB G_is_value b_is_value (startD c_is_value.N ds) h (PoT (TR P_is_value) ds h)) : ∃ r h2, d_is_value ds h = .ok r h2 ∧ (TR P_is_value) ds h r h2 := denT_ok hl w
theorem ub_is_value_3 {Γ : Gam} {σ : Sg} {h : Hm} {P : Po} : wpB Γ b_is_value_3 σ h P = wpB Γ (.cons (.ret (.band (.isi (.v 1) .str) (.cmp .isin (.v 1) (.ix (.ix (.v 0) (.int 1)) (.int 1))))) .nil) σ h P := rfl
theorem ub_is_value_2 {Γ : Gam} {σ : Sg} {h : Hm} {P : Po} : wpB Γ b_is_value_2 σ h P = wpB Γ (.cons (.ret (.call n_is_between (.cons (.ix (.ix (.v 0) (.int 1)) (.int 1)) (.cons (.v 1) (.cons (.ix (.ix (.v 0) (.int 1)) (.int 2)) .nil))))) .nil) σ h P := rfl
theorem ub_is_value {Γ : Gam} {σ : Sg} {h : Hm} {P : Po} : wpB Γ b_is_value σ h P = wpB Γ (.cons (.ife (.call n_has_words (.cons (.v 0) .nil)) b_is_value_3 .nil) b_is_value_2) σ h P := rfl
local macro_rules | `(tactic| fail "mini u_is_value") => `(tactic| simp only [N_is_value, cg_is_value_is_between, cg_is_value_has_words, e_is_between, e_has_words, opn_tup, opn_lst, opn_int, opn_str, opn_bl, opn_non, eq_self, ub_is_value_3, ub_is_value_2, ub_is_value])
local macro_rules | `(tactic| fail "mini x_is_value") => `(tactic| repeat (first | fail "mini fw" | fail "mini u_is_value" | fail "mini fxx"))
theorem e_is_value {c : Col} {v : D} {h : Hm} (o : opn v = true) : d_is_value [colD c, v] h = .ok (.bl (isVal c.kd v)) h := by
  refine den_TR rfl ?_ ⟨c, v, rfl, o, rfl⟩ ?_
  · rintro v' ⟨c', v2, e, _, rfl⟩
    obtain ⟨e1, rfl⟩ := in2 e
    rw [colD_inj e1]
  · have hw := e_has_words (c := c) (h := h)
    obtain ⟨nm, kd⟩ := c
    cases kd with
    | num lo hi =>
      rw [colD_eq, kdD_num] at hw ⊢
      fail "mini x_is_value"
      rw [hw]
      simp only [isW_num]
      fail "mini x_is_value"
      rw [e_is_between o]
      fail "mini x_is_value"
      exact .refl
    | wrd ws =>
      rw [colD_eq, kdD_wrd] at hw ⊢
      fail "mini x_is_value"
      rw [hw]
      simp only [isW_wrd]
      fail "mini x_is_value"
      rw [opn_open o]
      cases v <;> first | exact Bool.noConfusion o | (fail "mini x_is_value"; exact .refl) | skip
      rename_i x
      fail "mini x_is_value"
      rw [any_str, all_flat]
      fail "mini x_is_value"
      exact .refl
/-- a row: one value of each column -/
def rowB : List Col → List D → Bool
  | [], [] => true
  | c :: cs, v :: vs => isVal c.kd v && rowB cs vs
  | _, _ => false
def isRow (cs : List Col) (v : D) : Bool := match v with
  | .tup xs => rowB cs xs
  | _ => false
/-- its members may be asked -/
def opn1 (v : D) : Bool := opn v && match v with
  | .tup xs => xs.all opn
  | _ => true
theorem rowB_len : ∀ {cs : List Col} {xs : List D}, rowB cs xs = true → xs.length = cs.length
  | [], [], _ => rfl
  | c :: cs, v :: vs, h => by
    have h : (isVal c.kd v && rowB cs vs) = true := h
    rw [Bool.and_eq_true] at h
    simp [rowB_len h.2]
  | [], _ :: _, h => by cases h
  | _ :: _, [], h => by cases h
theorem rowB_zip : ∀ {cs : List Col} {xs : List D}, xs.length = cs.length → rowB cs xs = ((cs.zip xs).all fun p => isVal p.1.kd p.2)
  | [], [], _ => rfl
  | c :: cs, v :: vs, h => by
    show (isVal c.kd v && rowB cs vs) = _
    rw [rowB_zip (by simpa using h)] <;> rfl
  | [], _ :: _, h => by simp at h
  | _ :: _, [], h => by simp at h
theorem zip_enc : ∀ (cs : List Col) (xs : List D), zipD (cs.map colD) xs = (cs.zip xs).map fun p => .wtup [colD p.1, p.2]
  | [], _ => by cases ‹List D› <;> rfl
  | c :: cs, [] => rfl
  | c :: cs, x :: xs => by
    show D.wtup [colD c, x] :: zipD (cs.map colD) xs = _
    rw [zip_enc cs xs] <;> rfl
def P_is_row_of : List D → D → Prop := fun ds r => ∃ (cs : List Col) (v : D), ds = [colsD cs, v] ∧ cs.length ≤ 1000 ∧ opn1 v = true ∧ r = .bl (isRow cs v)
noncomputable def G_is_row_of : Gam := gamL [(n_is_tuple_of, d_is_tuple_of), (n_is_value, d_is_value)] []
theorem cg_is_row_of_is_tuple_of {ds : List D} {h : Hm} : callG G_is_row_of n_is_tuple_of ds h = d_is_tuple_of ds h := rfl
theorem cg_is_row_of_is_value {ds : List D} {h : Hm} : callG G_is_row_of n_is_value ds h = d_is_value ds h := rfl
theorem N_is_row_of : c_is_row_of.N = (["columns", "value", "own", "one"] : List Str) := rfl
noncomputable def d_is_row_of : List D → Hm → Res D := denT G_is_row_of c_is_row_of.N 2 b_is_row_of (TR P_is_row_of)
theorem sp_is_row_of {ds : List D} {h : Hm} (hl : ds.length = 2) (w : wpB G_is_row_of b_is_row_of (startD c_is_row_of.N ds) h (PoT (TR P_is_row_of) ds h)) : ∃ r h2, d_is_row_of ds h = .ok r h2 ∧ (TR P_is_row_of) ds h r h2 := denT_ok hl w
theorem ub_is_row_of {Γ : Gam} {σ : Sg} {h : Hm} {P : Po} : wpB Γ b_is_row_of σ h P = wpB Γ (.cons (.ret (.band (.call n_is_tuple_of (.cons (.bi .len (.cons (.v 0) .nil)) (.cons (.v 1) .nil))) (.bi .all (.cons (.comp false [("own", 2), ("one", 3)] (.tup [2, 3]) (.zp (.v 0) (.v 1)) .nil (.call n_is_value (.cons (.v 2) (.cons (.v 3) .nil)))) .nil)))) .nil) σ h P := rfl
local macro_rules | `(tactic| fail "mini u_is_row_of") => `(tactic| simp only [N_is_row_of, cg_is_row_of_is_tuple_of, cg_is_row_of_is_value, e_is_tuple_of, e_is_value, opn_tup, opn_lst, opn_int, opn_str, opn_bl, opn_non, eq_self, ub_is_row_of])
local macro_rules | `(tactic| fail "mini x_is_row_of") => `(tactic| repeat (first | fail "mini fw" | fail "mini u_is_row_of" | fail "mini fxx"))
theorem e_is_row_of {cs : List Col} {v : D} {h : Hm} (l : cs.length ≤ 1000) (o : opn1 v = true) : d_is_row_of [colsD cs, v] h = .ok (.bl (isRow cs v)) h := by
  refine den_TR rfl ?_ ⟨cs, v, rfl, l, o, rfl⟩ ?_
  · rintro v' ⟨c', v2, e, _, _, rfl⟩
    obtain ⟨e1, rfl⟩ := in2 e
    rw [colsD_inj e1]
  · unfold opn1 at o
    rw [Bool.and_eq_true] at o
    unfold colsD
    fail "mini x_is_row_of"
    rw [e_is_tuple_of o.1]
    fail "mini x_is_row_of"
    cases v <;> first | exact Bool.noConfusion o.1 | (fail "mini x_is_row_of"; exact .refl) | skip
    rename_i xs
    by_cases hl : xs.length = cs.length
    · rw [tupN_tup, decide_eq_true (by rw [List.length_map, hl])]
      fail "mini x_is_row_of"
      rw [zip_enc, compR_enc (cs.zip xs) (fun p => .wtup [colD p.1, p.2]) (fun p => .bl (isVal p.1.kd p.2)) (fun p hp t => ⟨_, rfl, ?_⟩) (by rw [List.length_zip]; omega) (fun _ _ => rfl), Res.bind_ok, all_bl, ← rowB_zip hl]
      · fail "mini x_is_row_of"
        exact .refl
      · fail "mini x_is_row_of"
        rw [e_is_value (List.all_eq_true.mp o.2 _ (List.of_mem_zip hp).2)]
    · rw [tupN_tup, decide_eq_false (by rw [List.length_map]; omega)]
      fail "mini x_is_row_of"
      have e : isRow cs (.tup xs) = false := by
        cases k : rowB cs xs with
        | false => exact k
        | true => exact absurd (rowB_len k) hl
      rw [e]
      exact .refl
theorem opn1_tup {xs : List D} (o : xs.all opn = true) : opn1 (.tup xs) = true := by
  unfold opn1
  rw [opn_tup]
  exact o
/-! from values of a bounded kind -/
theorem okWs_gv {m L k : Nat} (hm : m ≤ 1000) {v : D} (h : gvD m L k v = true) : okWs v := by
  refine ⟨gv_opn h, fun xs e => ?_⟩
  subst e
  refine ⟨Nat.le_trans (gv_len h) hm, fun x hx => ?_⟩
  cases k with
  | zero => exact Bool.noConfusion h
  | succ k =>
    have g := gv_mem h x hx
    refine ⟨gv_opn g, ?_⟩
    cases x <;> first | rfl | skip
    rw [gv_str, Bool.and_eq_true] at g
    exact decide_eq_true (by have := of_decide_eq_true g.2; omega)
theorem okKd_gv {m L k : Nat} (hm : m ≤ 1000) {v : D} (h : gvD m L k v = true) : okKd v := by
  refine ⟨gv_opn h, fun xs e => ?_⟩
  subst e
  cases k with
  | zero => exact Bool.noConfusion h
  | succ k =>
    refine ⟨fun x hx => ⟨gv_opn (gv_mem h x hx), okWs_gv hm (gv_mem h x hx)⟩, fun x hx => ?_⟩
    have g := gv_mem h _ (List.mem_of_getElem? hx)
    rw [gv_str, Bool.and_eq_true] at g
    exact g.1
theorem okCl_gv {m L k : Nat} (hm : m ≤ 1000) {v : D} (h : gvD m L k v = true) : okCl v := by
  refine ⟨gv_opn h, fun xs e => ?_⟩
  subst e
  refine ⟨Nat.le_trans (gv_len h) hm, fun c hc => ?_⟩
  cases k with
  | zero => exact Bool.noConfusion h
  | succ k =>
    have g := gv_mem h c hc
    refine ⟨gv_opn g, fun ys e y hy => ?_⟩
    subst e
    cases k with
    | zero => exact Bool.noConfusion g
    | succ k =>
      have gy := gv_mem g y hy
      refine ⟨gv_opn gy, ?_, okKd_gv hm gy, fun n => gv_below gy⟩
      cases y <;> first | rfl | skip
      rw [gv_str, Bool.and_eq_true] at gy
      exact decide_eq_true (by have := of_decide_eq_true gy.2; omega)

/-! tables -/
def tblD (cs : List Col) (rs : List (List D)) : D := .tup [colsD cs, .tup (rs.map .tup)]
theorem tblD_eq (cs : List Col) (rs : List (List D)) : tblD cs rs = .tup [colsD cs, .tup (rs.map .tup)] := rfl
theorem isVal_opn {k : Kd} {v : D} (e : isVal k v = true) : opn v = true := by
  cases k <;> cases v <;> first | rfl | exact Bool.noConfusion e
theorem rowB_opn : ∀ {cs : List Col} {xs : List D}, rowB cs xs = true → xs.all opn = true
  | [], [], _ => rfl
  | c :: cs, v :: vs, h => by
    have h : (isVal c.kd v && rowB cs vs) = true := h
    rw [Bool.and_eq_true] at h
    rw [List.all_cons, isVal_opn h.1, rowB_opn h.2]
    rfl
  | [], _ :: _, h => by cases h
  | _ :: _, [], h => by cases h
/-- the first row that is none, or the fortieth -/
def faultAt (cs : List Col) : Nat → List D → Option Nat
  | _, [] => none
  | i, v :: vs => if (decide (i = 40) || !isRow cs v) = true then some i else faultAt cs (i + 1) vs
def optD : Option Nat → D
  | none => .non
  | some k => .int k
def okT (v : D) : Prop := opn v = true ∧ ∀ xs, v = .tup xs → xs.length = 2 → (∀ x, xs[0]? = some x → okCl x) ∧ ∀ x, xs[1]? = some x → opn x = true ∧ ∀ ys, x = .tup ys → ∀ y ∈ ys, opn1 y = true
def isT (v : D) : Prop := ∃ cs vs, v = .tup [colsD cs, .tup vs] ∧ ColsOk cs
def P_table_fault : List D → D → Prop := fun ds r => ∃ v : D, ds = [v] ∧ okT v ∧ ((∃ cs vs, v = .tup [colsD cs, .tup vs] ∧ ColsOk cs ∧ r = optD (faultAt cs 0 vs)) ∨ (¬ isT v ∧ r = .int 0))
noncomputable def G_table_fault : Gam := gamL [(n_is_tuple_of, d_is_tuple_of), (n_is_columns, d_is_columns), (n_is_row_of, d_is_row_of)] [(5, .int 40)]
theorem cg_table_fault_is_tuple_of {ds : List D} {h : Hm} : callG G_table_fault n_is_tuple_of ds h = d_is_tuple_of ds h := rfl
theorem cg_table_fault_is_columns {ds : List D} {h : Hm} : callG G_table_fault n_is_columns ds h = d_is_columns ds h := rfl
theorem cg_table_fault_is_row_of {ds : List D} {h : Hm} : callG G_table_fault n_is_row_of ds h = d_is_row_of ds h := rfl
theorem gl_table_fault_5 {h : Hm} : globG G_table_fault 5 h = .ok (.int 40) h := rfl
theorem N_table_fault : c_table_fault.N = (["value", "k", "row"] : List Str) := rfl
noncomputable def d_table_fault : List D → Hm → Res D := denT G_table_fault c_table_fault.N 1 b_table_fault (TR P_table_fault)
theorem sp_table_fault {ds : List D} {h : Hm} (hl : ds.length = 1) (w : wpB G_table_fault b_table_fault (startD c_table_fault.N ds) h (PoT (TR P_table_fault) ds h)) : ∃ r h2, d_table_fault ds h = .ok r h2 ∧ (TR P_table_fault) ds h r h2 := denT_ok hl w
theorem ub_table_fault_4 {Γ : Gam} {σ : Sg} {h : Hm} {P : Po} : wpB Γ b_table_fault_4 σ h P = wpB Γ (.cons (.ret (.int 0)) .nil) σ h P := rfl
theorem ub_table_fault_6 {Γ : Gam} {σ : Sg} {h : Hm} {P : Po} : wpB Γ b_table_fault_6 σ h P = wpB Γ (.cons (.ret (.v 1)) .nil) σ h P := rfl
theorem ub_table_fault_5 {Γ : Gam} {σ : Sg} {h : Hm} {P : Po} : wpB Γ b_table_fault_5 σ h P = wpB Γ (.cons (.ife (.bor (.cmp .eq (.v 1) (.glob 5)) (.bnot (.call n_is_row_of (.cons (.ix (.v 0) (.int 0)) (.cons (.v 2) .nil))))) b_table_fault_6 .nil) .nil) σ h P := rfl
theorem ub_table_fault_3 {Γ : Gam} {σ : Sg} {h : Hm} {P : Po} : wpB Γ b_table_fault_3 σ h P = wpB Γ (.cons (.ret .non) .nil) σ h P := rfl
theorem ub_table_fault_2 {Γ : Gam} {σ : Sg} {h : Hm} {P : Po} : wpB Γ b_table_fault_2 σ h P = wpB Γ (.cons (.for_ (.tup [1, 2]) (.enmT (.ix (.v 0) (.int 1))) b_table_fault_5) b_table_fault_3) σ h P := rfl
theorem ub_table_fault {Γ : Gam} {σ : Sg} {h : Hm} {P : Po} : wpB Γ b_table_fault σ h P = wpB Γ (.cons (.ife (.bor (.bnot (.call n_is_tuple_of (.cons (.int 2) (.cons (.v 0) .nil)))) (.bor (.bnot (.call n_is_columns (.cons (.ix (.v 0) (.int 0)) .nil))) (.bnot (.isi (.ix (.v 0) (.int 1)) .tuple)))) b_table_fault_4 .nil) b_table_fault_2) σ h P := rfl
local macro_rules | `(tactic| fail "mini u_table_fault") => `(tactic| simp only [N_table_fault, cg_table_fault_is_tuple_of, cg_table_fault_is_columns, cg_table_fault_is_row_of, gl_table_fault_5, e_is_tuple_of, e_is_columns, e_is_row_of, opn_tup, opn_lst, opn_int, opn_str, opn_bl, opn_non, eq_self, ub_table_fault_4, ub_table_fault_6, ub_table_fault_5, ub_table_fault_3, ub_table_fault_2, ub_table_fault])
local macro_rules | `(tactic| fail "mini x_table_fault") => `(tactic| repeat (first | fail "mini fw" | fail "mini u_table_fault" | fail "mini fxx"))
theorem fault_uniq {ds : List D} {r r' : D} (a : P_table_fault ds r) (b : P_table_fault ds r') : r = r' := by
  obtain ⟨v, rfl, _, a⟩ := a
  obtain ⟨v', e, _, b⟩ := b
  cases in1 e
  rcases a with ⟨cs, vs, e1, o1, rfl⟩ | ⟨n1, rfl⟩ <;> rcases b with ⟨cs', vs', e2, o2, rfl⟩ | ⟨n2, rfl⟩
  · rw [e1] at e2
    injection e2 with e2
    obtain ⟨e2, e3⟩ := in2 e2
    injection e3 with e3
    rw [colsD_inj e2, e3]
  · exact absurd ⟨cs, vs, e1, o1⟩ n2
  · exact absurd ⟨cs', vs', e2, o2⟩ n1
  · rfl
theorem e_table_faultN {v : D} {h : Hm} (o : okT v) (n : ¬ isT v) : d_table_fault [v] h = .ok (.int 0) h := by
  have p : P_table_fault [v] (.int 0) := ⟨v, rfl, o, .inr ⟨n, rfl⟩⟩
  refine den_TR rfl (fun v' q => fault_uniq q p) p ?_
  have o1 := o.1
  cases v
  case tup xs =>
    by_cases l2 : xs.length = 2
    · obtain ⟨k1, k2⟩ := o.2 xs rfl l2
      match xs, l2 with
      | [a, b], hl =>
        have oa := k1 a rfl
        have ob := k2 b rfl
        clear hl l2 k1 k2 p
        fail "mini x_table_fault"
        rw [e_is_columnsG oa]
        fail "mini x_table_fault"
        cases ha : isCols a with
        | false =>
          fail "mini x_table_fault"
          exact .refl
        | true =>
          unfold isCols at ha
          obtain ⟨cs, rfl, oc⟩ := @of_decide_eq_true _ (Classical.propDecidable _) ha
          have ob1 := ob.1
          cases b
          case tup vs => exact absurd ⟨cs, vs, rfl, oc⟩ n
          all_goals first
            | exact Bool.noConfusion ob1
            | (fail "mini x_table_fault"; exact .refl)
    · fail "mini x_table_fault"
      rw [decide_eq_false (show ¬ (xs.length : Int) = 2 by omega)]
      fail "mini x_table_fault"
      exact .refl
  all_goals first
    | exact Bool.noConfusion o1
    | (fail "mini x_table_fault"; simp only [tupN_non, tupN_bl, tupN_int, tupN_str, tupN_lst]; fail "mini x_table_fault"; exact .refl)
theorem faultAt_drop {cs : List Col} {vs : List D} {i : Nat} (h : i < vs.length) : faultAt cs i (vs.drop i) = if (decide (i = 40) || !isRow cs vs[i]) = true then some i else faultAt cs (i + 1) (vs.drop (i + 1)) := by
  rw [List.drop_eq_getElem_cons h]
  rfl
theorem enum_len : ∀ (k : Nat) (xs : List D), (enumD k xs).length = xs.length
  | _, [] => rfl
  | k, x :: xs => by
    show (enumD (k + 1) xs).length + 1 = xs.length + 1
    rw [enum_len (k + 1) xs]
theorem e_table_faultG {cs : List Col} {vs : List D} {h : Hm} (oc : ColsOk cs) (ov : ∀ v ∈ vs, opn1 v = true) : d_table_fault [.tup [colsD cs, .tup vs]] h = .ok (optD (faultAt cs 0 vs)) h := by
  have o : okT (.tup [colsD cs, .tup vs]) := ⟨rfl, fun xs e _ => by
    injection e with e
    subst e
    refine ⟨fun x e => by cases e; exact okCl_of oc, fun x e => ?_⟩
    cases e
    exact ⟨rfl, fun ys e => by injection e with e; subst e; exact ov⟩⟩
  have p : P_table_fault [.tup [colsD cs, .tup vs]] (optD (faultAt cs 0 vs)) := ⟨_, rfl, o, .inl ⟨cs, vs, rfl, oc, rfl⟩⟩
  refine den_TR rfl (fun v' q => fault_uniq q p) p ?_
  fail "mini x_table_fault"
  rw [e_is_columns oc]
  fail "mini x_table_fault"
  refine L_for (fun i σ h2 => h2 = h ∧ faultAt cs i (vs.drop i) = faultAt cs 0 vs ∧ ∃ x y, σ = [some (.tup [colsD cs, .tup vs]), x, y]) ⟨rfl, rfl, none, none, rfl⟩ ?_ ?_
  · rintro i d σ h2 hi ⟨rfl, hf, x, y, rfl⟩
    obtain ⟨z, e1, rfl⟩ := enumD_get _ _ _ _ hi
    have hlt : i < vs.length := (List.getElem?_eq_some_iff.mp e1).1
    have ez : vs[i] = z := (List.getElem?_eq_some_iff.mp e1).2
    have oz := ov z (List.mem_of_getElem? e1)
    rw [faultAt_drop hlt, ez] at hf
    refine ⟨_, rfl, ?_⟩
    fail "mini x_table_fault"
    rw [show decide (((0 + i : Nat) : Int) = 40) = decide (i = 40) from decide_eq_decide.mpr (by omega)]
    cases h40 : decide (i = 40) with
    | true =>
      rw [h40] at hf
      simp only [Bool.true_or, if_true] at hf
      fail "mini x_table_fault"
      rw [← hf]
      rw [show optD (some i) = .int ((0 + i : Nat) : Int) by rw [Nat.zero_add]; rfl]
      exact .refl
    | false =>
      rw [h40] at hf
      fail "mini x_table_fault"
      rw [e_is_row_of (by have := oc.four; omega) oz]
      fail "mini x_table_fault"
      cases hr : isRow cs z with
      | true =>
        rw [hr] at hf
        simp only [Bool.not_true, Bool.or_self, Bool.false_eq_true, if_false] at hf
        fail "mini x_table_fault"
        exact ⟨trivial, hf, _, _, rfl⟩
      | false =>
        rw [hr] at hf
        simp only [Bool.not_false, Bool.or_true, if_true] at hf
        fail "mini x_table_fault"
        rw [← hf]
        rw [show optD (some i) = .int ((0 + i : Nat) : Int) by rw [Nat.zero_add]; rfl]
        exact .refl
  · rintro σ h2 ⟨rfl, hf, x, y, rfl⟩
    rw [enum_len, List.drop_length] at hf
    fail "mini x_table_fault"
    rw [← hf]
    exact .refl
def P_is_table : List D → D → Prop := fun ds r => ∃ v : D, ds = [v] ∧ okT v ∧ ((∃ cs vs, v = .tup [colsD cs, .tup vs] ∧ ColsOk cs ∧ r = .bl (faultAt cs 0 vs).isNone) ∨ (¬ isT v ∧ r = .bl false))
noncomputable def G_is_table : Gam := gamL [(n_table_fault, d_table_fault)] []
theorem cg_is_table_table_fault {ds : List D} {h : Hm} : callG G_is_table n_table_fault ds h = d_table_fault ds h := rfl
theorem N_is_table : c_is_table.N = (["value"] : List Str) := rfl
noncomputable def d_is_table : List D → Hm → Res D := denT G_is_table c_is_table.N 1 b_is_table (TR P_is_table)
theorem sp_is_table {ds : List D} {h : Hm} (hl : ds.length = 1) (w : wpB G_is_table b_is_table (startD c_is_table.N ds) h (PoT (TR P_is_table) ds h)) : ∃ r h2, d_is_table ds h = .ok r h2 ∧ (TR P_is_table) ds h r h2 := denT_ok hl w
theorem ub_is_table {Γ : Gam} {σ : Sg} {h : Hm} {P : Po} : wpB Γ b_is_table σ h P = wpB Γ (.cons (.ret (.isN (.call n_table_fault (.cons (.v 0) .nil)))) .nil) σ h P := rfl
local macro_rules | `(tactic| fail "mini u_is_table") => `(tactic| simp only [N_is_table, cg_is_table_table_fault, opn_tup, opn_lst, opn_int, opn_str, opn_bl, opn_non, eq_self, ub_is_table])
local macro_rules | `(tactic| fail "mini x_is_table") => `(tactic| repeat (first | fail "mini fw" | fail "mini u_is_table" | fail "mini fxx"))
theorem ist_uniq {ds : List D} {r r' : D} (a : P_is_table ds r) (b : P_is_table ds r') : r = r' := by
  obtain ⟨v, rfl, _, a⟩ := a
  obtain ⟨v', e, _, b⟩ := b
  cases in1 e
  rcases a with ⟨cs, vs, e1, o1, rfl⟩ | ⟨n1, rfl⟩ <;> rcases b with ⟨cs', vs', e2, o2, rfl⟩ | ⟨n2, rfl⟩
  · rw [e1] at e2
    injection e2 with e2
    obtain ⟨e2, e3⟩ := in2 e2
    injection e3 with e3
    rw [colsD_inj e2, e3]
  · exact absurd ⟨cs, vs, e1, o1⟩ n2
  · exact absurd ⟨cs', vs', e2, o2⟩ n1
  · rfl
theorem e_is_tableN {v : D} {h : Hm} (o : okT v) (n : ¬ isT v) : d_is_table [v] h = .ok (.bl false) h := by
  have p : P_is_table [v] (.bl false) := ⟨v, rfl, o, .inr ⟨n, rfl⟩⟩
  refine den_TR rfl (fun v' q => ist_uniq q p) p ?_
  fail "mini x_is_table"
  rw [e_table_faultN o n]
  fail "mini x_is_table"
  exact .refl
theorem isNon_opt (o : Option Nat) : isNonD (optD o) = o.isNone := by cases o <;> rfl
theorem e_is_tableG {cs : List Col} {vs : List D} {h : Hm} (oc : ColsOk cs) (ov : ∀ v ∈ vs, opn1 v = true) : d_is_table [.tup [colsD cs, .tup vs]] h = .ok (.bl (faultAt cs 0 vs).isNone) h := by
  have o : okT (.tup [colsD cs, .tup vs]) := ⟨rfl, fun xs e _ => by
    injection e with e
    subst e
    refine ⟨fun x e => by cases e; exact okCl_of oc, fun x e => ?_⟩
    cases e
    exact ⟨rfl, fun ys e => by injection e with e; subst e; exact ov⟩⟩
  have p : P_is_table [.tup [colsD cs, .tup vs]] (.bl (faultAt cs 0 vs).isNone) := ⟨_, rfl, o, .inl ⟨cs, vs, rfl, oc, rfl⟩⟩
  refine den_TR rfl (fun v' q => ist_uniq q p) p ?_
  fail "mini x_is_table"
  rw [e_table_faultG oc ov]
  fail "mini x_is_table"
  rw [isNon_opt]
  exact .refl
def P_is_row : List D → D → Prop := fun ds r => ∃ (cs : List Col) (v : D), ds = [colsD cs, v] ∧ ColsOk cs ∧ opn1 v = true ∧ r = .bl (isRow cs v)
noncomputable def G_is_row : Gam := gamL [(n_check_columns, d_check_columns), (n_is_row_of, d_is_row_of)] []
theorem cg_is_row_check_columns {ds : List D} {h : Hm} : callG G_is_row n_check_columns ds h = d_check_columns ds h := rfl
theorem cg_is_row_is_row_of {ds : List D} {h : Hm} : callG G_is_row n_is_row_of ds h = d_is_row_of ds h := rfl
theorem N_is_row : c_is_row.N = (["columns", "value"] : List Str) := rfl
noncomputable def d_is_row : List D → Hm → Res D := denT G_is_row c_is_row.N 2 b_is_row (TR P_is_row)
theorem sp_is_row {ds : List D} {h : Hm} (hl : ds.length = 2) (w : wpB G_is_row b_is_row (startD c_is_row.N ds) h (PoT (TR P_is_row) ds h)) : ∃ r h2, d_is_row ds h = .ok r h2 ∧ (TR P_is_row) ds h r h2 := denT_ok hl w
theorem ub_is_row_2 {Γ : Gam} {σ : Sg} {h : Hm} {P : Po} : wpB Γ b_is_row_2 σ h P = wpB Γ (.cons (.ret (.call n_is_row_of (.cons (.v 0) (.cons (.v 1) .nil)))) .nil) σ h P := rfl
theorem ub_is_row {Γ : Gam} {σ : Sg} {h : Hm} {P : Po} : wpB Γ b_is_row σ h P = wpB Γ (.cons (.ex (.call n_check_columns (.cons (.v 0) .nil))) b_is_row_2) σ h P := rfl
local macro_rules | `(tactic| fail "mini u_is_row") => `(tactic| simp only [N_is_row, cg_is_row_check_columns, cg_is_row_is_row_of, e_check_columns, e_is_row_of, opn_tup, opn_lst, opn_int, opn_str, opn_bl, opn_non, eq_self, ub_is_row_2, ub_is_row])
local macro_rules | `(tactic| fail "mini x_is_row") => `(tactic| repeat (first | fail "mini fw" | fail "mini u_is_row" | fail "mini fxx"))
theorem e_is_row {cs : List Col} {v : D} {h : Hm} (oc : ColsOk cs) (o : opn1 v = true) : d_is_row [colsD cs, v] h = .ok (.bl (isRow cs v)) h := by
  refine den_TR rfl ?_ ⟨cs, v, rfl, oc, o, rfl⟩ ?_
  · rintro v' ⟨c', v2, e, _, _, rfl⟩
    obtain ⟨e1, rfl⟩ := in2 e
    rw [colsD_inj e1]
  · fail "mini x_is_row"
    rw [e_check_columns oc]
    fail "mini x_is_row"
    rw [e_is_row_of (by have := oc.four; omega) o]
    fail "mini x_is_row"
    exact .refl
/-- data below a row -/
theorem below_row {cs : List Col} {xs : List D} {n : Nat} (h : rowB cs xs = true) : belowD n (.tup xs) = true := by
  show belowDs n xs = true
  exact belowDs_of fun v hv => by
    have o := List.all_eq_true.mp (rowB_opn h) v hv
    have : ∀ {cs : List Col} {xs : List D}, rowB cs xs = true → ∀ v ∈ xs, (∃ i, v = D.int i) ∨ ∃ x, v = D.str x := by
      intro cs
      induction cs with
      | nil => intro xs h v hv; cases xs with
        | nil => cases hv
        | cons _ _ => cases h
      | cons c cs ih => intro xs h v hv; cases xs with
        | nil => cases h
        | cons x xs =>
          have h : (isVal c.kd x && rowB cs xs) = true := h
          rw [Bool.and_eq_true] at h
          rcases List.mem_cons.mp hv with rfl | hv
          · have z := h.1
            cases k : c.kd <;> rw [k] at z <;> cases v <;> first | (exact .inl ⟨_, rfl⟩) | (exact .inr ⟨_, rfl⟩) | (exact Bool.noConfusion z)
          · exact ih h.2 v hv
    rcases this h v hv with ⟨i, rfl⟩ | ⟨x, rfl⟩ <;> rfl

/-! the brush -/
structure Br where
  deep : List Int
  p : Int
  c : Int
def Br.ok (b : Br) : Prop := 0 ≤ b.p ∧ b.p < 2305843009213693952
def hb (b : Br) (t : Hm) : Hm := .lst (b.deep.map .int) :: .lst [.ref 0, .int b.p, .int b.c] :: t
theorem ints_inj {xs ys : List Int} (e : xs.map D.int = ys.map D.int) : xs = ys := map_inj (fun _ _ e => by injection e) e
theorem hb_inj {b b' : Br} {t t' : Hm} (e : hb b t = hb b' t') : b = b' ∧ t = t' := by
  obtain ⟨x, y, z⟩ := b
  obtain ⟨x', y', z'⟩ := b'
  unfold hb at e
  injection e with e1 e2
  injection e2 with e2 e3
  injection e1 with e1
  injection e2 with e2
  obtain ⟨_, a, c⟩ := in3 e2
  injection a with a
  injection c with c
  have e1 := ints_inj e1
  simp only at e1 a c
  subst e1 a c
  exact ⟨rfl, e3⟩
theorem hb_len {b : Br} {t : Hm} : (hb b t).length = t.length + 2 := rfl
theorem hb_app {b : Br} {t u : Hm} : hb b t ++ u = hb b (t ++ u) := rfl
theorem hb_at {b : Br} {t : Hm} {k : Nat} : (hb b t)[k + 2]? = t[k]? := rfl
theorem hb_set {b : Br} {t : Hm} {k : Nat} {o : MO} : (hb b t).set (k + 2) o = hb b (t.set k o) := rfl
theorem l0 {b : Br} {t : Hm} : listOf? (hb b t) 0 = some (b.deep.map .int) := rfl
theorem l1 {b : Br} {t : Hm} : listOf? (hb b t) 1 = some [.ref 0, .int b.p, .int b.c] := rfl
theorem s0 {b : Br} {t : Hm} {zs : List Int} : (hb b t).set 0 (.lst (zs.map .int)) = hb ⟨zs, b.p, b.c⟩ t := rfl
theorem s0c {b : Br} {t : Hm} {z : Int} {zs : List Int} : (hb b t).set 0 (.lst (.int z :: zs.map .int)) = hb ⟨z :: zs, b.p, b.c⟩ t := rfl
theorem s1 {b : Br} {t : Hm} {p c : Int} : (hb b t).set 1 (.lst [.ref 0, .int p, .int c]) = hb ⟨b.deep, p, c⟩ t := rfl
theorem eq_deep {b : Br} {t : Hm} : eqD (.ref 0) (.lst []) (hb b t) = .ok b.deep.isEmpty (hb b t) := eq_nil l0
theorem open_r {b : Br} {t : Hm} {k : Nat} (h : k < 2) : openD (hb b t) (.ref k) = true := by
  match k, h with
  | 0, _ => rfl
  | 1, _ => rfl
theorem fz_hb {b b' : Br} {t u : Hm} {d : D} (k : belowD (t.length + 2) d = true) : Fz (hb b t) d (hb b' (t ++ u)) d (hb b' t) := by
  have e : (hb b' (t ++ u)).take (t.length + 2) = hb b' t := by
    rw [← hb_app, List.take_append_of_le_length (Nat.le_of_eq hb_len.symm), List.take_of_length_le (Nat.le_of_eq hb_len)]
  refine .cut (m := t.length + 2) (Nat.le_of_eq hb_len) (by rw [hb_len, List.length_append]; omega) k (fun i o hi ho => ?_) (by rw [e]; exact .refl)
  match i with
  | 0 =>
    cases ho
    right
    show belowDs _ _ = true
    refine belowDs_of fun y hy => ?_
    obtain ⟨z, _, rfl⟩ := List.mem_map.mp hy
    rfl
  | 1 =>
    cases ho
    right
    show (decide (0 < t.length + 2) && true) = true
    rw [decide_eq_true (by omega)]
    rfl
  | i + 2 =>
    left
    rw [hb_at] at ho ⊢
    rw [List.getElem?_append_left (by omega)] at ho
    exact ho
theorem powOk61 : powOk 2 61 = true := by decide
theorem powOk59 : powOk 2 59 = true := by decide
theorem powOk18 : powOk 10 18 = true := by decide
theorem p61 : (2 : Int) ^ (Int.toNat 61) = 2305843009213693952 := by decide
theorem p59 : (2 : Int) ^ (Int.toNat 59) = 576460752303423488 := by decide
theorem p18 : (10 : Int) ^ (Int.toNat 18) = 1000000000000000000 := by decide
theorem dv1 : divOk 16384 = true := by decide
theorem dv2 : divOk 131072 = true := by decide
theorem log_small {n k : Nat} (h : n < 2 ^ k) (k0 : 0 < k) : n.log2 < k := by
  rcases Nat.eq_zero_or_pos n with rfl | h0
  · rw [show Nat.log2 0 = 0 by decide]; exact k0
  · exact (Nat.log2_lt (by omega)).mpr h
theorem dvm {m : Int} (h0 : 0 < m) (h1 : m < 2 ^ 64) : divOk m = true := divOk_of (by omega) (Nat.lt_of_lt_of_le (log_small (k := 64) (by omega) (by decide)) (by decide))
local macro_rules | `(tactic| fail "mini fxx") => `(tactic| simp only [powOk61, powOk59, powOk18, p61, p59, p18, dv1, dv2, l0, l1, s0, s0c, s1, eq_deep, Int.reduceSub, Int.reduceAdd, Int.reduceLT, decide_true])
theorem k_setix {Γ : Gam} {o i : Ex} {b : Blk} {σ : Sg} {h : Hm} {P : Po} {d : D} {n : Nat} {k : Int} {xs : List D} {j : Nat} (ho : evE Γ o σ h = .ok (.ref n) h) (hi : evE Γ i σ h = .ok (.int k) h) (l : listOf? h n = some xs) (x : ixN xs.length k = some j) : (Res.ok d h).wp (KIxV Γ o i b σ P) = wpB Γ b σ (h.set n (.lst (xs.set j d))) P := by
  show (evE Γ o σ h).wp _ = _
  rw [ho]
  show (evE Γ i σ h).wp _ = _
  rw [hi]
  show (match listOf? h n with
      | some xs => match ixN xs.length k with
        | some j => wpB Γ b σ (h.set n (.lst (xs.set j d))) P
        | none => False
      | none => False) = _
  rw [l]
  dsimp only
  rw [x]
theorem i32 {x y z : D} : ixN [x, y, z].length 2 = some 2 := by
  show ixN 3 2 = some 2
  decide
theorem i31 {x y z : D} : ixN [x, y, z].length 1 = some 1 := by
  show ixN 3 1 = some 1
  decide
theorem ix0 {α : Type} {x : α} {xs : List α} : ixN (x :: xs).length 0 = some 0 := by
  unfold ixN
  simp
theorem po_rt {T : Tell} {ds : List D} {h : Hm} {d : D} {h2 : Hm} (k : T ds h d h2) : (PoT T ds h).rt d h2 := ⟨d, h2, .refl, k⟩
def T_dab : Tell := fun ds h r h' => ∀ (b : Br) (many : Int) (t : Hm), ds = [.ref 1, .int many] → h = hb b t → b.ok → 0 < many → many < 2 ^ 64 → ∃ (b' : Br) (n : Int), r = .int n ∧ h' = hb b' t ∧ b'.ok ∧ 0 ≤ n ∧ n < many
noncomputable def G_law_dab : Gam := gamL [] []
theorem N_law_dab : c_law_dab.N = (["brush", "many", "deep", "found"] : List Str) := rfl
noncomputable def d_law_dab : List D → Hm → Res D := denT G_law_dab c_law_dab.N 2 b_law_dab T_dab
theorem sp_law_dab {ds : List D} {h : Hm} (hl : ds.length = 2) (w : wpB G_law_dab b_law_dab (startD c_law_dab.N ds) h (PoT T_dab ds h)) : ∃ r h2, d_law_dab ds h = .ok r h2 ∧ T_dab ds h r h2 := denT_ok hl w
theorem ub_law_dab_7 {Γ : Gam} {σ : Sg} {h : Hm} {P : Po} : wpB Γ b_law_dab_7 σ h P = wpB Γ (.cons (.ex (.meth .popAt (.v 2) (.cons (.int 0) .nil))) .nil) σ h P := rfl
theorem ub_law_dab_10 {Γ : Gam} {σ : Sg} {h : Hm} {P : Po} : wpB Γ b_law_dab_10 σ h P = wpB Γ (.cons (.ret (.v 3)) .nil) σ h P := rfl
theorem ub_law_dab_9 {Γ : Gam} {σ : Sg} {h : Hm} {P : Po} : wpB Γ b_law_dab_9 σ h P = wpB Γ (.cons (.setix (.v 2) (.int 0) (.op2 .fdiv (.ix (.v 2) (.int 0)) (.v 1))) b_law_dab_10) σ h P := rfl
theorem ub_law_dab_8 {Γ : Gam} {σ : Sg} {h : Hm} {P : Po} : wpB Γ b_law_dab_8 σ h P = wpB Γ (.cons (.set 3 (.op2 .mod (.bi .int (.cons (.ix (.v 2) (.int 0)) .nil)) (.v 1))) b_law_dab_9) σ h P := rfl
theorem ub_law_dab_6 {Γ : Gam} {σ : Sg} {h : Hm} {P : Po} : wpB Γ b_law_dab_6 σ h P = wpB Γ (.cons (.ret (.op2 .mod (.op2 .fdiv (.op2 .mod (.bi .int (.cons (.op2 .add (.op2 .mul (.ix (.v 0) (.int 1)) (.ix (.v 0) (.int 1))) (.op2 .fdiv (.ix (.v 0) (.int 1)) (.int 16384))) .nil)) (.op2 .add (.op2 .pow (.int 2) (.int 59)) (.int 131))) (.int 131072)) (.v 1))) .nil) σ h P := rfl
theorem ub_law_dab_5 {Γ : Gam} {σ : Sg} {h : Hm} {P : Po} : wpB Γ b_law_dab_5 σ h P = wpB Γ (.cons (.setix (.v 0) (.int 1) (.op2 .mod (.bi .int (.cons (.op2 .add (.op2 .mul (.ix (.v 0) (.int 1)) (.int 6364136223846793005)) (.op2 .mul (.ix (.v 0) (.int 2)) (.int 1442695040888963407))) .nil)) (.op2 .sub (.op2 .pow (.int 2) (.int 61)) (.int 1)))) b_law_dab_6) σ h P := rfl
theorem ub_law_dab_4 {Γ : Gam} {σ : Sg} {h : Hm} {P : Po} : wpB Γ b_law_dab_4 σ h P = wpB Γ (.cons (.setix (.v 0) (.int 2) (.op2 .add (.ix (.v 0) (.int 2)) (.int 1))) b_law_dab_5) σ h P := rfl
theorem ub_law_dab_3 {Γ : Gam} {σ : Sg} {h : Hm} {P : Po} : wpB Γ b_law_dab_3 σ h P = wpB Γ (.cons (.ife (.cmp .ne (.v 2) (.lst .nil)) b_law_dab_8 .nil) b_law_dab_4) σ h P := rfl
theorem ub_law_dab_2 {Γ : Gam} {σ : Sg} {h : Hm} {P : Po} : wpB Γ b_law_dab_2 σ h P = wpB Γ (.cons (.while_ (.band (.cmp .ne (.v 2) (.lst .nil)) (.cmp .eq (.ix (.v 2) (.int 0)) (.int 0))) b_law_dab_7) b_law_dab_3) σ h P := rfl
theorem ub_law_dab {Γ : Gam} {σ : Sg} {h : Hm} {P : Po} : wpB Γ b_law_dab σ h P = wpB Γ (.cons (.set 2 (.ix (.v 0) (.int 0))) b_law_dab_2) σ h P := rfl
local macro_rules | `(tactic| fail "mini u_law_dab") => `(tactic| simp only [N_law_dab, opn_tup, opn_lst, opn_int, opn_str, opn_bl, opn_non, eq_self, ub_law_dab_7, ub_law_dab_10, ub_law_dab_9, ub_law_dab_8, ub_law_dab_6, ub_law_dab_5, ub_law_dab_4, ub_law_dab_3, ub_law_dab_2, ub_law_dab])
local macro_rules | `(tactic| fail "mini x_law_dab") => `(tactic| repeat (first | fail "mini fw" | fail "mini u_law_dab" | fail "mini fxx"))
theorem T_dab_mk {b b' : Br} {many n : Int} {t : Hm} (o : b'.ok) (n0 : 0 ≤ n) (n1 : n < many) : T_dab [.ref 1, .int many] (hb b t) (.int n) (hb b' t) := by
  intro b2 many2 t2 e1 e2 _ _ _
  obtain ⟨_, e1⟩ := in2 e1
  injection e1 with e1
  obtain ⟨rfl, rfl⟩ := hb_inj e2
  exact ⟨b', n, rfl, rfl, o, n0, by rw [← e1]; exact n1⟩
theorem s_dab {b : Br} {many : Int} {t : Hm} (o : b.ok) (m0 : 0 < many) (m1 : many < 2 ^ 64) : ∃ d h, d_law_dab [.ref 1, .int many] (hb b t) = .ok d h ∧ ∃ (b' : Br) (n : Int), d = .int n ∧ h = hb b' t ∧ b'.ok ∧ 0 ≤ n ∧ n < many := by
  have w : wpB G_law_dab b_law_dab (startD c_law_dab.N [.ref 1, .int many]) (hb b t) (PoT T_dab [.ref 1, .int many] (hb b t)) := by
    fail "mini x_law_dab"
    refine L_while (m := b.deep.length) (fun m σ h2 => ∃ zs, σ = [some (.ref 1), some (.int many), some (.ref 0), none] ∧ h2 = hb ⟨zs, b.p, b.c⟩ t ∧ zs.length = m) ⟨b.deep, rfl, rfl, rfl⟩ ?_
    rintro m σ h2 ⟨zs, rfl, rfl, rfl⟩
    cases zs with
    | nil =>
      fail "mini x_law_dab"
      simp only [List.isEmpty_nil, Bool.not_true]
      fail "mini x_law_dab"
      refine And.intro (fun z => by cases z) (fun _ => ?_)
      fail "mini x_law_dab"
      simp only [List.isEmpty_nil, Bool.not_true]
      fail "mini x_law_dab"
      rw [k_setix (n := 1) (k := 2) (j := 2) rfl rfl l1 i32]
      fail "mini x_law_dab"
      rw [mulOk_r (by decide) (by decide), mulOk_r (by decide) (by decide)]
      fail "mini x_law_dab"
      rw [k_setix (n := 1) (k := 1) (j := 1) rfl rfl l1 i31]
      fail "mini x_law_dab"
      have q0 := Int.emod_nonneg (b.p * 6364136223846793005 + (b.c + 1) * 1442695040888963407) (show (2305843009213693951 : Int) ≠ 0 by decide)
      have q1 := Int.emod_lt_of_pos (b.p * 6364136223846793005 + (b.c + 1) * 1442695040888963407) (show (0 : Int) < 2305843009213693951 by decide)
      rw [mulOk_r (by omega) (by omega)]
      fail "mini x_law_dab"
      rw [decide_eq_true m0]
      fail "mini x_law_dab"
      exact po_rt (T_dab_mk (b := b) (t := t) (b' := ⟨[], (b.p * 6364136223846793005 + (b.c + 1) * 1442695040888963407) % 2305843009213693951, b.c + 1⟩) ⟨q0, by show _ % _ < _; omega⟩ (Int.emod_nonneg _ (by omega)) (Int.emod_lt_of_pos _ m0))
    | cons z zs =>
      fail "mini x_law_dab"
      simp only [List.isEmpty_cons, Bool.not_false]
      fail "mini x_law_dab"
      by_cases hz : z = 0
      · rw [decide_eq_true hz]
        refine And.intro (fun _ => ?_) (fun z => by cases z)
        fail "mini x_law_dab"
        rw [rcv_pop l0]
        fail "mini x_law_dab"
        rw [pop0 l0]
        fail "mini x_law_dab"
        exact ⟨zs.length, by simp, zs, trivial, rfl, rfl⟩
      · rw [decide_eq_false hz]
        refine And.intro (fun z => by cases z) (fun _ => ?_)
        fail "mini x_law_dab"
        simp only [List.isEmpty_cons, Bool.not_false]
        fail "mini x_law_dab"
        rw [decide_eq_true m0]
        fail "mini x_law_dab"
        rw [dvm m0 m1]
        fail "mini x_law_dab"
        rw [k_setix (n := 0) (k := 0) (j := 0) rfl rfl l0 (by rw [List.length_map]; exact ix0)]
        fail "mini x_law_dab"
        exact po_rt (T_dab_mk (b := b) (t := t) (b' := ⟨z.fdiv many :: zs, b.p, b.c⟩) o (Int.emod_nonneg _ (by omega)) (Int.emod_lt_of_pos _ m0))
  obtain ⟨r, h2, e, T⟩ := sp_law_dab rfl w
  exact ⟨r, h2, e, T b many t rfl rfl o m0 m1⟩

theorem compR_M {α : Type} {Γ : Gam} {own : List (Str × Nat)} {tg : Tg} {cond : Exs} {elt : Ex} {σ : Sg} {h1 : Hm} (xs : List α) (enc : α → D) (val : α → Option D)
    (hg : ∀ x ∈ xs, ∀ t, ∃ σ', asgD tg (enc x) (wipeD σ (own.map (·.2))) = some σ' ∧ (match val x with
      | some y => evTs Γ cond σ' (h1 ++ [t]) = .ok true (h1 ++ [t]) ∧ evE Γ elt σ' (h1 ++ [t]) = .ok y (h1 ++ [t])
      | none => evTs Γ cond σ' (h1 ++ [t]) = .ok false (h1 ++ [t])))
    (hl : xs.length ≤ 1000000) : compR Γ true own tg cond elt σ (xs.map enc) h1 = .ok (.ref h1.length) (h1 ++ [.lst (xs.filterMap val)]) := by
  unfold compR
  rw [comp_enc (val := val) (fun x hx t => ?_) (Nat.le_trans (by simpa using hl) (by decide : 1000000 ≤ LIM))]
  · rw [Res.bind_ok, show listOf? (h1 ++ [MO.lst ([] ++ xs.filterMap val)]) h1.length = some ([] ++ xs.filterMap val) from listOf_new]
    rfl
  · obtain ⟨σ', a1, a2⟩ := hg x hx t
    cases k : val x with
    | none =>
      rw [k] at a2
      exact stepC_none a1 a2
    | some y =>
      rw [k] at a2
      exact stepC_some a1 a2.1 a2.2
def T_brush : Tell := fun ds h r h' => ∀ zs : List Int, ds = [.lst (zs.map .int)] → zs.length ≤ 63 → h = [] → ∃ b : Br, r = .ref 1 ∧ h' = hb b [] ∧ b.ok
noncomputable def G_law_brush : Gam := gamL [] []
theorem N_law_brush : c_law_brush.N = (["script", "deep", "cell", "paint"] : List Str) := rfl
noncomputable def d_law_brush : List D → Hm → Res D := denT G_law_brush c_law_brush.N 1 b_law_brush T_brush
theorem sp_law_brush {ds : List D} {h : Hm} (hl : ds.length = 1) (w : wpB G_law_brush b_law_brush (startD c_law_brush.N ds) h (PoT T_brush ds h)) : ∃ r h2, d_law_brush ds h = .ok r h2 ∧ T_brush ds h r h2 := denT_ok hl w
theorem ub_law_brush_5 {Γ : Gam} {σ : Sg} {h : Hm} {P : Po} : wpB Γ b_law_brush_5 σ h P = wpB Γ (.cons (.set 3 (.op2 .mod (.bi .int (.cons (.op2 .add (.op2 .add (.op2 .mul (.v 3) (.int 48271)) (.op2 .mul (.v 2) (.int 69621))) (.int 13)) .nil)) (.op2 .sub (.op2 .pow (.int 2) (.int 61)) (.int 1)))) .nil) σ h P := rfl
theorem ub_law_brush_4 {Γ : Gam} {σ : Sg} {h : Hm} {P : Po} : wpB Γ b_law_brush_4 σ h P = wpB Γ (.cons (.ret (.lstM (.cons (.v 1) (.cons (.v 3) (.cons (.int 0) .nil))))) .nil) σ h P := rfl
theorem ub_law_brush_3 {Γ : Gam} {σ : Sg} {h : Hm} {P : Po} : wpB Γ b_law_brush_3 σ h P = wpB Γ (.cons (.for_ (.v 2) (.ex (.v 0)) b_law_brush_5) b_law_brush_4) σ h P := rfl
theorem ub_law_brush_2 {Γ : Gam} {σ : Sg} {h : Hm} {P : Po} : wpB Γ b_law_brush_2 σ h P = wpB Γ (.cons (.set 3 (.op2 .add (.int 7927) (.op2 .mul (.int 11) (.bi .len (.cons (.v 0) .nil))))) b_law_brush_3) σ h P := rfl
theorem ub_law_brush {Γ : Gam} {σ : Sg} {h : Hm} {P : Po} : wpB Γ b_law_brush σ h P = wpB Γ (.cons (.set 1 (.comp true [("cell", 2)] (.v 2) (.ex (.v 0)) (.cons (.cmp .ge (.v 2) (.op2 .pow (.int 10) (.int 18))) .nil) (.op2 .sub (.v 2) (.op2 .pow (.int 10) (.int 18))))) b_law_brush_2) σ h P := rfl
local macro_rules | `(tactic| fail "mini u_law_brush") => `(tactic| simp only [N_law_brush, opn_tup, opn_lst, opn_int, opn_str, opn_bl, opn_non, eq_self, ub_law_brush_5, ub_law_brush_4, ub_law_brush_3, ub_law_brush_2, ub_law_brush])
local macro_rules | `(tactic| fail "mini x_law_brush") => `(tactic| repeat (first | fail "mini fw" | fail "mini u_law_brush" | fail "mini fxx"))
theorem fm_ints (zs : List Int) (f : Int → Option Int) : ∃ ws : List Int, (zs.filterMap fun z => (f z).map D.int) = ws.map D.int := ⟨zs.filterMap f, by rw [List.map_filterMap]⟩
theorem s_brush {zs : List Int} (hl : zs.length ≤ 63) : ∃ b : Br, d_law_brush [.lst (zs.map .int)] [] = .ok (.ref 1) (hb b []) ∧ b.ok := by
  have w : wpB G_law_brush b_law_brush (startD c_law_brush.N [.lst (zs.map .int)]) [] (PoT T_brush [.lst (zs.map .int)] []) := by
    fail "mini x_law_brush"
    obtain ⟨ws, hws⟩ := fm_ints zs fun z => if 1000000000000000000 ≤ z then some (z - 1000000000000000000) else none
    rw [compR_M zs D.int (fun z => (if 1000000000000000000 ≤ z then some (z - 1000000000000000000) else none).map D.int) (fun z hz t => ⟨_, rfl, ?_⟩) (by omega), hws]
    · fail "mini x_law_brush"
      rw [List.length_map, mulOk_l (by decide) (by decide)]
      fail "mini x_law_brush"
      refine L_for (fun i σ h2 => h2 = [.lst (ws.map .int)] ∧ ∃ (x : Option D) (p : Int), σ = [some (.lst (zs.map .int)), some (.ref 0), x, some (.int p)] ∧ 0 ≤ p ∧ p < 2305843009213693952) ⟨rfl, none, _, rfl, by omega, by omega⟩ ?_ ?_
      · rintro i d σ h2 hi ⟨rfl, x, p, rfl, p0, p1⟩
        rw [List.getElem?_map] at hi
        cases hc : zs[i]? with
        | none => rw [hc] at hi; cases hi
        | some z =>
          rw [hc] at hi
          cases hi
          refine ⟨_, rfl, ?_⟩
          fail "mini x_law_brush"
          rw [mulOk_r (by decide) (by decide), mulOk_r (by decide) (by decide)]
          fail "mini x_law_brush"
          have q0 := Int.emod_nonneg (p * 48271 + z * 69621 + 13) (show (2305843009213693951 : Int) ≠ 0 by decide)
          have q1 := Int.emod_lt_of_pos (p * 48271 + z * 69621 + 13) (show (0 : Int) < 2305843009213693951 by decide)
          exact ⟨trivial, _, _, rfl, q0, by omega⟩
      · rintro σ h2 ⟨rfl, x, p, rfl, p0, p1⟩
        fail "mini x_law_brush"
        refine po_rt fun zs2 e _ _ => ⟨⟨ws, p, 0⟩, rfl, rfl, p0, p1⟩
    · by_cases c : 1000000000000000000 ≤ z
      · rw [if_pos c]
        simp only [Option.map_some]
        fail "mini x_law_brush"
        rw [decide_eq_true c]
        exact ⟨rfl, trivial⟩
      · rw [if_neg c]
        simp only [Option.map_none]
        fail "mini x_law_brush"
        rw [decide_eq_false c]
  obtain ⟨r, h2, e, T⟩ := sp_law_brush rfl w
  obtain ⟨b, rfl, rfl, o⟩ := T zs rfl hl rfl
  exact ⟨b, e, o⟩
/-! pick -/
def sq (t : Hm) (d : D) (xs : List D) : Prop := d = .lst xs ∨ d = .tup xs ∨ ∃ k, d = .ref (k + 2) ∧ t[k]? = some (.lst xs)
theorem sq_inj {t : Hm} {d : D} {xs ys : List D} (a : sq t d xs) (b : sq t d ys) : xs = ys := by
  rcases a with rfl | rfl | ⟨k, rfl, a⟩ <;> rcases b with b | b | ⟨k', b, c⟩ <;> first | (cases b; rfl) | (cases b; rw [a] at c; cases c; rfl) | (cases b)
def T_pick : Tell := fun ds h r h' => ∀ (b : Br) (d : D) (xs : List D) (t : Hm), ds = [.ref 1, d] → h = hb b t → b.ok → sq t d xs → xs ≠ [] → xs.length ≤ 1000000 → ∃ b' : Br, h' = hb b' t ∧ b'.ok ∧ r ∈ xs
noncomputable def G_law_pick : Gam := gamL [(n_law_dab, d_law_dab)] []
theorem cg_law_pick_law_dab {ds : List D} {h : Hm} : callG G_law_pick n_law_dab ds h = d_law_dab ds h := rfl
theorem N_law_pick : c_law_pick.N = (["brush", "things"] : List Str) := rfl
noncomputable def d_law_pick : List D → Hm → Res D := denT G_law_pick c_law_pick.N 2 b_law_pick T_pick
theorem sp_law_pick {ds : List D} {h : Hm} (hl : ds.length = 2) (w : wpB G_law_pick b_law_pick (startD c_law_pick.N ds) h (PoT T_pick ds h)) : ∃ r h2, d_law_pick ds h = .ok r h2 ∧ T_pick ds h r h2 := denT_ok hl w
theorem ub_law_pick {Γ : Gam} {σ : Sg} {h : Hm} {P : Po} : wpB Γ b_law_pick σ h P = wpB Γ (.cons (.ret (.ix (.v 1) (.call n_law_dab (.cons (.v 0) (.cons (.bi .len (.cons (.v 1) .nil)) .nil))))) .nil) σ h P := rfl
local macro_rules | `(tactic| fail "mini u_law_pick") => `(tactic| simp only [N_law_pick, cg_law_pick_law_dab, opn_tup, opn_lst, opn_int, opn_str, opn_bl, opn_non, eq_self, ub_law_pick])
local macro_rules | `(tactic| fail "mini x_law_pick") => `(tactic| repeat (first | fail "mini fw" | fail "mini u_law_pick" | fail "mini fxx"))
theorem at_mem {xs : List D} {n : Int} (n0 : 0 ≤ n) (n1 : n < xs.length) : ∃ y, atI xs n = some y ∧ y ∈ xs := by
  obtain ⟨m, rfl⟩ : ∃ m : Nat, n = m := ⟨n.toNat, by omega⟩
  have hm : m < xs.length := by omega
  exact ⟨xs[m], by rw [atI_nat hm, List.getElem?_eq_getElem hm], List.getElem_mem hm⟩
theorem lK {b : Br} {t : Hm} {k : Nat} {xs : List D} (e : t[k]? = some (.lst xs)) : listOf? (hb b t) (k + 2) = some xs := by
  show (match (hb b t)[k + 2]? with | some (.lst xs) => some xs | _ => none) = _
  rw [hb_at, e]
theorem len_ref {h : Hm} {n : Nat} {xs : List D} (e : listOf? h n = some xs) : biD .len [.ref n] h = .ok (.int xs.length) h := by
  rw [bi_len _ _ (fun _ z => by cases z) (fun _ z => by cases z)]
  show (match listOf? h n with | some xs => _ | none => _) = _
  rw [e]
theorem tup_ref {h : Hm} {n : Nat} {xs : List D} (e : listOf? h n = some xs) : biD .tuple [.ref n] h = .ok (.tup xs) h := by
  show (match listOf? h n with | some xs => _ | none => _) = _
  rw [e]
theorem s_pick {b : Br} {d : D} {xs : List D} {t : Hm} (o : b.ok) (s : sq t d xs) (ne : xs ≠ []) (l : xs.length ≤ 1000000) : ∃ (y : D) (b' : Br), d_law_pick [.ref 1, d] (hb b t) = .ok y (hb b' t) ∧ b'.ok ∧ y ∈ xs := by
  have pos := List.length_pos_iff.mpr ne
  have w : wpB G_law_pick b_law_pick (startD c_law_pick.N [.ref 1, d]) (hb b t) (PoT T_pick [.ref 1, d] (hb b t)) := by
    have fin : ∀ (b' : Br) (y : D), b'.ok → y ∈ xs → T_pick [.ref 1, d] (hb b t) y (hb b' t) := by
      intro b' y o' hy b2 d2 xs2 t2 e1 e2 _ s2 _ _
      obtain ⟨_, rfl⟩ := in2 e1
      obtain ⟨rfl, rfl⟩ := hb_inj e2
      rw [sq_inj s2 s]
      exact ⟨b', rfl, o', hy⟩
    obtain ⟨_, _, e, b', n, rfl, rfl, o', n0, n1⟩ := s_dab (t := t) o (many := xs.length) (by omega) (by omega)
    obtain ⟨y, e2, hy⟩ := at_mem n0 n1
    rcases s with rfl | rfl | ⟨k, rfl, ek⟩
    · fail "mini x_law_pick"
      rw [e]
      fail "mini x_law_pick"
      rw [e2]
      exact po_rt (fin b' y o' hy)
    · fail "mini x_law_pick"
      rw [e]
      fail "mini x_law_pick"
      rw [e2]
      exact po_rt (fin b' y o' hy)
    · fail "mini x_law_pick"
      rw [len_ref (lK ek)]
      fail "mini x_law_pick"
      rw [e]
      fail "mini x_law_pick"
      rw [lK ek]
      dsimp only
      rw [e2]
      exact po_rt (fin b' y o' hy)
  obtain ⟨r, h2, e, T⟩ := sp_law_pick rfl w
  obtain ⟨b', rfl, o', hy⟩ := T b d xs t rfl rfl o s ne l
  exact ⟨r, b', e, o', hy⟩
/-! values, rows -/
def P_law_values : List D → D → Prop := fun ds r => ∃ c : Col, ds = [colD c] ∧ KdOk c.kd ∧ r = .lst (valsD c.kd)
noncomputable def G_law_values : Gam := gamL [] []
theorem N_law_values : c_law_values.N = (["column", "kind"] : List Str) := rfl
noncomputable def d_law_values : List D → Hm → Res D := denT G_law_values c_law_values.N 1 b_law_values (TR P_law_values)
theorem sp_law_values {ds : List D} {h : Hm} (hl : ds.length = 1) (w : wpB G_law_values b_law_values (startD c_law_values.N ds) h (PoT (TR P_law_values) ds h)) : ∃ r h2, d_law_values ds h = .ok r h2 ∧ (TR P_law_values) ds h r h2 := denT_ok hl w
theorem ub_law_values_2 {Γ : Gam} {σ : Sg} {h : Hm} {P : Po} : wpB Γ b_law_values_2 σ h P = wpB Γ (.cons (.ret (.ifx (.cmp .eq (.ix (.v 1) (.int 0)) (.str "word")) (.bi .list (.cons (.ix (.v 1) (.int 1)) .nil)) (.rngs true (.ix (.v 1) (.int 1)) (.op2 .add (.ix (.v 1) (.int 2)) (.int 1))))) .nil) σ h P := rfl
theorem ub_law_values {Γ : Gam} {σ : Sg} {h : Hm} {P : Po} : wpB Γ b_law_values σ h P = wpB Γ (.cons (.set 1 (.ix (.v 0) (.int 1))) b_law_values_2) σ h P := rfl
local macro_rules | `(tactic| fail "mini u_law_values") => `(tactic| simp only [N_law_values, opn_tup, opn_lst, opn_int, opn_str, opn_bl, opn_non, eq_self, ub_law_values_2, ub_law_values])
local macro_rules | `(tactic| fail "mini x_law_values") => `(tactic| repeat (first | fail "mini fw" | fail "mini u_law_values" | fail "mini fxx"))
theorem e_law_values {c : Col} {h : Hm} (o : KdOk c.kd) : d_law_values [colD c] h = .ok (.lst (valsD c.kd)) h := by
  refine den_TR rfl ?_ ⟨c, rfl, o, rfl⟩ ?_
  · rintro v' ⟨c', e, _, rfl⟩
    rw [colD_inj (in1 e)]
  · obtain ⟨nm, kd⟩ := c
    cases kd with
    | num lo hi =>
      obtain ⟨o1, o2, o3, o4, o5, o6⟩ := o
      rw [colD_eq, kdD_num]
      fail "mini x_law_values"
      rw [rgOk_small (by omega) (by omega) (by omega) (by omega)]
      exact .refl
    | wrd ws =>
      rw [colD_eq, kdD_wrd]
      fail "mini x_law_values"
      exact .refl
theorem vals_mem {k : Kd} (o : KdOk k) {v : D} (h : v ∈ valsD k) : isVal k v = true := by
  cases k with
  | num lo hi =>
    obtain ⟨o1, o2, o3, o4, o5, o6⟩ := o
    have h : v ∈ rngD lo (hi + 1 - lo).toNat := h
    obtain ⟨i, hget⟩ := List.mem_iff_getElem?.mp h
    have hl : i < (hi + 1 - lo).toNat := by
      have := (List.getElem?_eq_some_iff.mp hget).1
      rwa [rngD_length] at this
    obtain ⟨_, rfl⟩ := rngD_get _ _ _ _ hget
    show (decide _ && decide _) = true
    rw [decide_eq_true (by omega), decide_eq_true (by omega)]
    rfl
  | wrd ws =>
    obtain ⟨w, hw, rfl⟩ := List.mem_map.mp h
    exact decide_eq_true hw
inductive All2 {α β : Type} (Q : α → β → Prop) : List α → List β → Prop
  | nil : All2 Q [] []
  | cons {a : α} {b : β} {as : List α} {bs : List β} : Q a b → All2 Q as bs → All2 Q (a :: as) (b :: bs)
theorem comp_hb {α : Type} {f : D → Hm → Res (Option D)} {enc : α → D} {Q : α → D → Prop} {t : Hm} : ∀ {xs : List α} {acc : List D} {b : Br}, b.ok →
    (∀ a ∈ xs, ∀ (b : Br) u, b.ok → ∃ (b' : Br) (y : D), f (enc a) (hb b (t ++ [u])) = .ok (some y) (hb b' (t ++ [u])) ∧ b'.ok ∧ Q a y) → acc.length + xs.length ≤ LIM →
    ∃ (b' : Br) (ys : List D), compLoop f (t.length + 2) (xs.map enc) (hb b (t ++ [.lst acc])) = .ok () (hb b' (t ++ [.lst (acc ++ ys)])) ∧ b'.ok ∧ All2 Q xs ys
  | [], acc, b, o, _, _ => ⟨b, [], by rw [List.append_nil]; rfl, o, .nil⟩
  | x :: xs, acc, b, o, hf, hl => by
    have hl' : acc.length + (xs.length + 1) ≤ LIM := hl
    obtain ⟨b1, y, e1, o1, q1⟩ := hf x List.mem_cons_self b (.lst acc) o
    obtain ⟨b2, ys, e2, o2, q2⟩ := comp_hb (acc := acc ++ [y]) o1 (fun a ha => hf a (List.mem_cons_of_mem _ ha)) (by rw [List.length_append]; simp; omega)
    refine ⟨b2, y :: ys, ?_, o2, .cons q1 q2⟩
    rw [List.map_cons]
    unfold compLoop
    rw [e1, Res.bind_ok]
    dsimp only
    have e3 : (t ++ [MO.lst acc])[t.length]? = some (.lst acc) := by simp
    rw [lK e3]
    dsimp only
    rw [decide_eq_true (show acc.length < LIM by omega), Res.guard_true, hb_set, show (t ++ [MO.lst acc]).set t.length (.lst (acc ++ [y])) = t ++ [MO.lst (acc ++ [y])] by simp, e2, List.append_assoc]
    rfl
theorem compR_hb {α : Type} {Γ : Gam} {own : List (Str × Nat)} {tg : Tg} {elt : Ex} {σ : Sg} {b : Br} {t : Hm} (xs : List α) (enc : α → D) (Q : α → D → Prop) (o : b.ok)
    (hg : ∀ a ∈ xs, ∀ (b : Br) u, b.ok → ∃ σ', asgD tg (enc a) (wipeD σ (own.map (·.2))) = some σ' ∧ ∃ (b' : Br) (y : D), evE Γ elt σ' (hb b (t ++ [u])) = .ok y (hb b' (t ++ [u])) ∧ b'.ok ∧ Q a y) (hl : xs.length ≤ 1000000) :
    ∃ (b' : Br) (ys : List D) (u : Hm), compR Γ false own tg .nil elt σ (xs.map enc) (hb b t) = .ok (.lst ys) (hb b' (t ++ u)) ∧ b'.ok ∧ All2 Q xs ys := by
  obtain ⟨b', ys, e, o', q⟩ := comp_hb (f := stepC Γ own tg .nil elt σ) (enc := enc) (Q := Q) (t := t) (acc := []) o (fun a ha b u ob => by
    obtain ⟨σ', a1, b', y, a2, a3, a4⟩ := hg a ha b u ob
    exact ⟨b', y, stepC_some a1 rfl a2, a3, a4⟩) (Nat.le_trans (by simpa using hl) (by decide : 1000000 ≤ LIM))
  unfold compR
  rw [hb_len, hb_app, e, Res.bind_ok, List.nil_append]
  have e3 : (t ++ [MO.lst ys])[t.length]? = some (.lst ys) := by simp
  rw [lK e3]
  dsimp only
  unfold endC
  by_cases c : ((hb b' (t ++ [MO.lst ys])).take (hb b t).length = hb b t ∧ (hb b' (t ++ [MO.lst ys])).length = (hb b t).length + 1) ∧ belowDs (hb b t).length ys = true
  · rw [if_pos c]
    exact ⟨b, ys, [], by rw [List.append_nil], o, q⟩
  · rw [if_neg c, hb_len, hb_set, show (t ++ [MO.lst ys]).set t.length .gone = t ++ [.gone] by simp]
    exact ⟨b', ys, [.gone], rfl, o', q⟩
def T_row : Tell := fun ds h r h' => ∀ (b : Br) (cs : List Col) (t : Hm), ds = [.ref 1, colsD cs] → h = hb b t → b.ok → (∀ c ∈ cs, KdOk c.kd) → cs.length ≤ 1000 → ∃ (b' : Br) (vs : List D), r = .tup vs ∧ h' = hb b' t ∧ b'.ok ∧ rowB cs vs = true
noncomputable def G_law_row : Gam := gamL [(n_law_pick, d_law_pick), (n_law_values, d_law_values)] []
theorem cg_law_row_law_pick {ds : List D} {h : Hm} : callG G_law_row n_law_pick ds h = d_law_pick ds h := rfl
theorem cg_law_row_law_values {ds : List D} {h : Hm} : callG G_law_row n_law_values ds h = d_law_values ds h := rfl
theorem N_law_row : c_law_row.N = (["brush", "columns", "column"] : List Str) := rfl
noncomputable def d_law_row : List D → Hm → Res D := denT G_law_row c_law_row.N 2 b_law_row T_row
theorem sp_law_row {ds : List D} {h : Hm} (hl : ds.length = 2) (w : wpB G_law_row b_law_row (startD c_law_row.N ds) h (PoT T_row ds h)) : ∃ r h2, d_law_row ds h = .ok r h2 ∧ T_row ds h r h2 := denT_ok hl w
theorem ub_law_row {Γ : Gam} {σ : Sg} {h : Hm} {P : Po} : wpB Γ b_law_row σ h P = wpB Γ (.cons (.ret (.bi .tuple (.cons (.comp false [("column", 2)] (.v 2) (.ex (.v 1)) .nil (.call n_law_pick (.cons (.v 0) (.cons (.call n_law_values (.cons (.v 2) .nil)) .nil)))) .nil))) .nil) σ h P := rfl
local macro_rules | `(tactic| fail "mini u_law_row") => `(tactic| simp only [N_law_row, cg_law_row_law_pick, cg_law_row_law_values, e_law_values, opn_tup, opn_lst, opn_int, opn_str, opn_bl, opn_non, eq_self, ub_law_row])
local macro_rules | `(tactic| fail "mini x_law_row") => `(tactic| repeat (first | fail "mini fw" | fail "mini u_law_row" | fail "mini fxx"))
theorem all2_row : ∀ {cs : List Col} {ys : List D}, All2 (fun (c : Col) y => isVal c.kd y = true) cs ys → rowB cs ys = true
  | [], ys, h => by cases h; rfl
  | c :: cs, ys, h => by
    cases h with
    | cons a b =>
      show (isVal c.kd _ && rowB cs _) = true
      rw [a, all2_row b] <;> rfl
theorem valsD_ne {k : Kd} (o : KdOk k) : valsD k ≠ [] := List.length_pos_iff.mp (vals_len o).1
theorem s_row {b : Br} {cs : List Col} {t : Hm} (o : b.ok) (oc : ∀ c ∈ cs, KdOk c.kd) (l : cs.length ≤ 1000) : ∃ (vs : List D) (b' : Br), d_law_row [.ref 1, colsD cs] (hb b t) = .ok (.tup vs) (hb b' t) ∧ b'.ok ∧ rowB cs vs = true := by
  have w : wpB G_law_row b_law_row (startD c_law_row.N [.ref 1, colsD cs]) (hb b t) (PoT T_row [.ref 1, colsD cs] (hb b t)) := by
    rw [show startD c_law_row.N [.ref 1, colsD cs] = [some (.ref 1), some (.tup (cs.map colD)), none] from rfl]
    fail "mini x_law_row"
    obtain ⟨b', ys, u, e, o', q⟩ := compR_hb (Γ := G_law_row) (own := [("column", 2)]) (tg := .v 2) (elt := .call n_law_pick (.cons (.v 0) (.cons (.call n_law_values (.cons (.v 2) .nil)) .nil))) (σ := [some (.ref 1), some (.tup (cs.map colD)), none]) (t := t) cs colD (fun (c : Col) y => isVal c.kd y = true) o (fun c hc b u ob => ⟨_, rfl, by
      obtain ⟨y, b', e, o', hy⟩ := s_pick (t := t ++ [u]) ob (.inl rfl) (valsD_ne (oc c hc)) (by have := vals_len (oc c hc); omega)
      refine ⟨b', y, ?_, o', vals_mem (oc c hc) hy⟩
      fail "mini x_law_row"
      rw [e_law_values (oc c hc)]
      fail "mini x_law_row"
      exact e⟩) (by omega)
    rw [e]
    fail "mini x_law_row"
    have hr := all2_row q
    refine ⟨.tup ys, hb b' t, fz_hb (below_row hr), ?_⟩
    intro b2 cs2 t2 e1 e2 _ _ _
    obtain ⟨_, e1⟩ := in2 e1
    obtain ⟨rfl, rfl⟩ := hb_inj e2
    exact ⟨b', ys, rfl, rfl, o', by rw [← colsD_inj e1]; exact hr⟩
  obtain ⟨r, h2, e, T⟩ := sp_law_row rfl w
  obtain ⟨b', vs, rfl, rfl, o', hr⟩ := T b cs t rfl rfl o oc l
  exact ⟨vs, b', e, o', hr⟩

/-! columns drawn -/
def W3 : List (List Str) := [["rome", "oslo", "bonn", "lima", "riga", "baku"], ["a", "aa", "aaa", "b", "ab", "ba"], ["zoo", "abcdefgh", "z", "y", "x", "zo"]]
def nms : List Str := ["city", "age", "of", "word"]
def turnW (ws : List Str) (f n : Nat) : List Str := (List.range n).map fun j => ws.getD ((f + j) % 6) ""
theorem W3_ok : ∀ ws ∈ W3, ws.length = 6 ∧ ∀ f < 6, ∀ n < 7, (turnW ws f n).Nodup ∧ (turnW ws f n).all wordOk = true := by decide +kernel
theorem nms_ok : nms.Nodup ∧ nms.all wordOk = true := by decide +kernel
theorem rngD_map : ∀ (n : Nat) (lo : Int), rngD lo n = (List.range n).map fun i : Nat => D.int (lo + i)
  | 0, _ => rfl
  | n + 1, lo => by
    show D.int lo :: rngD (lo + 1) n = _
    rw [rngD_map n (lo + 1), List.range_succ_eq_map, List.map_cons, List.map_map]
    congr 1
    · simp
    · apply List.map_congr_left
      intro i _
      show D.int _ = D.int _
      congr 1
      simp only [Nat.succ_eq_add_one, Int.natCast_add]
      omega
theorem rngD_map0 (n : Nat) : rngD 0 n = (List.range n).map fun i : Nat => D.int i := by
  rw [rngD_map]
  apply List.map_congr_left
  intro i _
  rw [Int.zero_add]
theorem lN {b : Br} {t : Hm} {xs : List D} : listOf? (hb b (t ++ [MO.lst xs])) (t.length + 2) = some xs := lK (by simp)
theorem sN {b : Br} {t : Hm} {o o' : MO} : (hb b (t ++ [o])).set (t.length + 2) o' = hb b (t ++ [o']) := by
  rw [hb_set]
  simp
theorem eq_nilP {h : Hm} {n k : Nat} {xs : List D} (hk : k ≤ 63) (e : listOf? h n = some xs) (p : plainD (k + 1) (.lst xs) = true) : eqD (.ref n) (.lst []) h = .ok xs.isEmpty h := by
  obtain ⟨q, a1, a2, a3, _⟩ := plain_py (k + 1) _ p
  obtain ⟨ps, e2, rfl⟩ : ∃ ps, toPys xs = some ps ∧ q = .list ps := by
    have a1 : (toPys xs).map PyData.list = some q := a1
    cases e : toPys xs with
    | none => rw [e] at a1; cases a1
    | some ps => rw [e] at a1; cases a1; exact ⟨_, rfl, rfl⟩
  unfold eqD
  rw [show toPyH h (.ref n) = some (.list ps) by show ((listOf? h n).bind toPys).map PyData.list = _; rw [e]; show (toPys xs).map PyData.list = _; rw [e2]; rfl, show toPyH h (.lst []) = some (.list []) from rfl]
  have s1 : SeqAt.shaped (.list ps) = true := by
    unfold SeqAt.shaped
    rw [a2, decide_eq_true (show (PyData.list ps).depth ≤ 64 by omega)]
    rfl
  dsimp only
  rw [s1]
  have hl := toPys_len e2
  cases ps with
  | nil =>
    have : xs = [] := List.length_eq_zero_iff.mp hl
    rw [this]
    rfl
  | cons p ps =>
    cases xs with
    | nil => cases hl
    | cons x xs => rfl
theorem eq_nilL {h : Hm} {k : Nat} {xs : List D} (hk : k ≤ 63) (p : plainD (k + 1) (.lst xs) = true) : eqD (.lst xs) (.lst []) h = .ok xs.isEmpty h := by
  obtain ⟨q, a1, a2, a3, _⟩ := plain_py (k + 1) _ p
  obtain ⟨ps, e2, rfl⟩ : ∃ ps, toPys xs = some ps ∧ q = .list ps := by
    have a1 : (toPys xs).map PyData.list = some q := a1
    cases e : toPys xs with
    | none => rw [e] at a1; cases a1
    | some ps => rw [e] at a1; cases a1; exact ⟨_, rfl, rfl⟩
  unfold eqD
  rw [show toPyH h (.lst xs) = some (.list ps) from a1, show toPyH h (.lst []) = some (.list []) from rfl]
  have s1 : SeqAt.shaped (.list ps) = true := by
    unfold SeqAt.shaped
    rw [a2, decide_eq_true (show (PyData.list ps).depth ≤ 64 by omega)]
    rfl
  dsimp only
  rw [s1]
  have hl := toPys_len e2
  cases ps with
  | nil =>
    have : xs = [] := List.length_eq_zero_iff.mp hl
    rw [this]
    rfl
  | cons p ps =>
    cases xs with
    | nil => cases hl
    | cons x xs => rfl
theorem plain_str {k : Nat} {x : Str} (h : PyData.strOk x = true) : plainD k (.str x) = true := by cases k <;> exact h
theorem plain_lit {k : Nat} {x : String} : plainD k (.str (Str.ofString x)) = true := plain_str ok_lit
theorem plain_int {k : Nat} {i : Int} : plainD k (.int i) = true := by cases k <;> rfl
theorem plain_tup {k : Nat} {xs : List D} (l : xs.length ≤ 1000) (a : xs.all (plainD k) = true) : plainD (k + 1) (.tup xs) = true := by
  show (decide (xs.length ≤ 1000) && xs.all (plainD k)) = true
  rw [decide_eq_true l, a] <;> rfl
theorem plain_lst {k : Nat} {xs : List D} (l : xs.length ≤ 1000) (a : xs.all (plainD k) = true) : plainD (k + 1) (.lst xs) = true := by
  show (decide (xs.length ≤ 1000) && xs.all (plainD k)) = true
  rw [decide_eq_true l, a] <;> rfl
theorem plain_kd {k : Kd} (o : KdOk k) : plainD 2 (kdD k) = true := by
  cases k with
  | num lo hi => exact plain_tup (by simp) (by simp only [List.all_cons, List.all_nil, plain_lit, plain_int, Bool.and_self])
  | wrd ws =>
    obtain ⟨o1, o2, o3, o4⟩ := o
    refine plain_tup (by simp) ?_
    rw [List.all_cons, List.all_cons, plain_lit, plain_tup (k := 0) (by rw [List.length_map]; omega) (List.all_eq_true.mpr fun v hv => by
      obtain ⟨w, hw, rfl⟩ := List.mem_map.mp hv
      exact plain_str (word_ok (o3 w hw)))]
    rfl
theorem plain_col {c : Col} (o : KdOk c.kd) (n : wordOk c.nm = true) : plainD 3 (colD c) = true := plain_tup (by simp) (by rw [List.all_cons, List.all_cons, plain_str (word_ok n), plain_kd o]; rfl)
def ColsPre (i : Nat) (many : Nat) (cs : List Col) : Prop := countC cs = many ∧ (∀ c ∈ cs, KdOk c.kd) ∧ (cs.map (·.nm)).Sublist (nms.take i)
theorem pre_all {i m : Nat} {cs : List Col} (p : ColsPre i m cs) : cs.length ≤ 4 ∧ (∀ c ∈ cs, wordOk c.nm = true) ∧ (cs.map (·.nm)).Nodup := by
  have s : (cs.map (·.nm)).Sublist nms := p.2.2.trans (List.take_sublist _ _)
  refine ⟨by have := s.length_le; rw [List.length_map] at this; exact this, fun c hc => List.all_eq_true.mp nms_ok.2 _ (s.subset (List.mem_map.mpr ⟨c, hc, rfl⟩)), nms_ok.1.sublist s⟩
theorem pre_skip {i m : Nat} {cs : List Col} (p : ColsPre i m cs) : ColsPre (i + 1) m cs := ⟨p.1, p.2.1, p.2.2.trans (by rw [List.take_succ]; exact List.sublist_append_left _ _)⟩
theorem countC_snoc {cs : List Col} {c : Col} : countC (cs ++ [c]) = countC cs * (valsD c.kd).length := by
  unfold countC
  rw [List.foldl_append]
  rfl
theorem pre_add {i m : Nat} {cs : List Col} {k : Kd} {x : Str} (p : ColsPre i m cs) (o : KdOk k) (hx : nms[i]? = some x) : ColsPre (i + 1) (m * (valsD k).length) (cs ++ [⟨x, k⟩]) := by
  refine ⟨by rw [countC_snoc, p.1], fun c hc => ?_, ?_⟩
  · rcases List.mem_append.mp hc with h | h
    · exact p.2.1 c h
    · rw [List.mem_singleton.mp h]; exact o
  · rw [List.map_append, List.take_succ, hx]
    exact p.2.2.append (List.Sublist.refl _)
theorem pre_ok {i m : Nat} {cs : List Col} (p : ColsPre i m cs) (ne : cs ≠ []) (l : m ≤ 10000) : ColsOk cs := by
  obtain ⟨a, b, c⟩ := pre_all p
  exact ⟨List.length_pos_iff.mpr ne, a, p.2.1, b, c, by rw [p.1]; exact l⟩

local macro_rules | `(tactic| fail "mini fxx") => `(tactic| simp only [hb_app, hb_len, lN, sN])
theorem n_dab {b : Br} {t : Hm} (many : Int) (o : b.ok) (m0 : 0 < many) (m1 : many < 2 ^ 64) : ∃ (n : Nat) (b' : Br), d_law_dab [.ref 1, .int many] (hb b t) = .ok (.int n) (hb b' t) ∧ b'.ok ∧ (n : Int) < many := by
  obtain ⟨_, _, e, b', n, rfl, rfl, o', n0, n1⟩ := s_dab (t := t) o m0 m1
  obtain ⟨n, rfl⟩ : ∃ N : Nat, n = N := ⟨n.toNat, by omega⟩
  exact ⟨n, b', e, o', n1⟩
theorem one_ok : ColsOk [⟨"one", .num 5 6⟩] := ⟨by decide, by decide, fun c hc => by rw [List.mem_singleton.mp hc]; exact ⟨by decide, by decide, by decide, by decide, by decide, by decide⟩, fun c hc => by rw [List.mem_singleton.mp hc]; decide +kernel, by decide +kernel, by decide +kernel⟩
def T_cols : Tell := fun ds h r h' => ∀ (b : Br) (w : Bool) (t : Hm), ds = [.ref 1, .bl w] → h = hb b t → b.ok → ∃ (b' : Br) (cs : List Col), r = colsD cs ∧ h' = hb b' t ∧ b'.ok ∧ ColsOk cs
noncomputable def G_law_columns : Gam := gamL [(n_law_dab, d_law_dab), (n_law_pick, d_law_pick)] []
theorem cg_law_columns_law_dab {ds : List D} {h : Hm} : callG G_law_columns n_law_dab ds h = d_law_dab ds h := rfl
theorem cg_law_columns_law_pick {ds : List D} {h : Hm} : callG G_law_columns n_law_pick ds h = d_law_pick ds h := rfl
theorem N_law_columns : c_law_columns.N = (["brush", "wide", "words", "names", "found", "many", "k", "low", "span", "size", "first", "kind", "j"] : List Str) := rfl
noncomputable def d_law_columns : List D → Hm → Res D := denT G_law_columns c_law_columns.N 2 b_law_columns T_cols
theorem sp_law_columns {ds : List D} {h : Hm} (hl : ds.length = 2) (w : wpB G_law_columns b_law_columns (startD c_law_columns.N ds) h (PoT T_cols ds h)) : ∃ r h2, d_law_columns ds h = .ok r h2 ∧ T_cols ds h r h2 := denT_ok hl w
theorem ub_law_columns_11 {Γ : Gam} {σ : Sg} {h : Hm} {P : Po} : wpB Γ b_law_columns_11 σ h P = wpB Γ (.cons (.ex (.meth .append (.v 4) (.cons (.tup (.cons (.ix (.v 3) (.v 6)) (.cons (.v 11) .nil))) .nil))) .nil) σ h P := rfl
theorem ub_law_columns_10 {Γ : Gam} {σ : Sg} {h : Hm} {P : Po} : wpB Γ b_law_columns_10 σ h P = wpB Γ (.cons (.set 5 (.op2 .mul (.v 5) (.v 9))) b_law_columns_11) σ h P := rfl
theorem ub_law_columns_9 {Γ : Gam} {σ : Sg} {h : Hm} {P : Po} : wpB Γ b_law_columns_9 σ h P = wpB Γ (.cons (.ife (.cmp .le (.op2 .mul (.v 5) (.v 9)) (.ix (.lst (.cons (.int 120) (.cons (.int 10000) .nil))) (.bi .int (.cons (.v 1) .nil)))) b_law_columns_10 .nil) .nil) σ h P := rfl
theorem ub_law_columns_8 {Γ : Gam} {σ : Sg} {h : Hm} {P : Po} : wpB Γ b_law_columns_8 σ h P = wpB Γ (.cons (.set 9 (.ifx (.cmp .eq (.ix (.v 11) (.int 0)) (.str "number")) (.op2 .add (.v 8) (.int 1)) (.v 9))) b_law_columns_9) σ h P := rfl
theorem ub_law_columns_7 {Γ : Gam} {σ : Sg} {h : Hm} {P : Po} : wpB Γ b_law_columns_7 σ h P = wpB Γ (.cons (.set 11 (.ifx (.cmp .eq (.call n_law_dab (.cons (.v 0) (.cons (.int 2) .nil))) (.int 0)) (.tup (.cons (.str "number") (.cons (.v 7) (.cons (.op2 .add (.v 7) (.v 8)) .nil)))) (.tup (.cons (.str "word") (.cons (.bi .tuple (.cons (.comp false [("j", 12)] (.v 12) (.rng1 (.v 9)) .nil (.ix (.v 2) (.op2 .mod (.bi .int (.cons (.op2 .add (.v 10) (.v 12)) .nil)) (.int 6)))) .nil)) .nil))))) b_law_columns_8) σ h P := rfl
theorem ub_law_columns_6 {Γ : Gam} {σ : Sg} {h : Hm} {P : Po} : wpB Γ b_law_columns_6 σ h P = wpB Γ (.cons (.set 10 (.call n_law_dab (.cons (.v 0) (.cons (.int 6) .nil)))) b_law_columns_7) σ h P := rfl
theorem ub_law_columns_5 {Γ : Gam} {σ : Sg} {h : Hm} {P : Po} : wpB Γ b_law_columns_5 σ h P = wpB Γ (.cons (.par3 7 8 9 (.call n_law_pick (.cons (.v 0) (.cons (.lst (.cons (.int 0) (.cons (.neg (.int 3)) (.cons (.int 8) (.cons (.neg (.int 1000)) (.cons (.int 970) .nil)))))) .nil))) (.call n_law_pick (.cons (.v 0) (.cons (.lst (.cons (.int 0) (.cons (.int 1) (.cons (.int 2) (.cons (.int 30) .nil))))) .nil))) (.op2 .add (.int 1) (.call n_law_dab (.cons (.v 0) (.cons (.int 6) .nil))))) b_law_columns_6) σ h P := rfl
theorem ub_law_columns_4 {Γ : Gam} {σ : Sg} {h : Hm} {P : Po} : wpB Γ b_law_columns_4 σ h P = wpB Γ (.cons (.ret (.ifx (.cmp .ne (.v 4) (.lst .nil)) (.bi .tuple (.cons (.v 4) .nil)) (.tup (.cons (.tup (.cons (.str "one") (.cons (.tup (.cons (.str "number") (.cons (.int 5) (.cons (.int 6) .nil)))) .nil))) .nil)))) .nil) σ h P := rfl
theorem ub_law_columns_3 {Γ : Gam} {σ : Sg} {h : Hm} {P : Po} : wpB Γ b_law_columns_3 σ h P = wpB Γ (.cons (.for_ (.v 6) (.rng1 (.op2 .add (.int 1) (.call n_law_dab (.cons (.v 0) (.cons (.int 4) .nil))))) b_law_columns_5) b_law_columns_4) σ h P := rfl
theorem ub_law_columns_2 {Γ : Gam} {σ : Sg} {h : Hm} {P : Po} : wpB Γ b_law_columns_2 σ h P = wpB Γ (.cons (.par3 3 4 5 (.lst (.cons (.str "city") (.cons (.str "age") (.cons (.str "of") (.cons (.str "word") .nil))))) (.lstM .nil) (.int 1)) b_law_columns_3) σ h P := rfl
theorem ub_law_columns {Γ : Gam} {σ : Sg} {h : Hm} {P : Po} : wpB Γ b_law_columns σ h P = wpB Γ (.cons (.set 2 (.call n_law_pick (.cons (.v 0) (.cons (.lst (.cons (.lst (.cons (.str "rome") (.cons (.str "oslo") (.cons (.str "bonn") (.cons (.str "lima") (.cons (.str "riga") (.cons (.str "baku") .nil))))))) (.cons (.lst (.cons (.str "a") (.cons (.str "aa") (.cons (.str "aaa") (.cons (.str "b") (.cons (.str "ab") (.cons (.str "ba") .nil))))))) (.cons (.lst (.cons (.str "zoo") (.cons (.str "abcdefgh") (.cons (.str "z") (.cons (.str "y") (.cons (.str "x") (.cons (.str "zo") .nil))))))) .nil)))) .nil)))) b_law_columns_2) σ h P := rfl
local macro_rules | `(tactic| fail "mini u_law_columns") => `(tactic| simp only [N_law_columns, cg_law_columns_law_dab, cg_law_columns_law_pick, opn_tup, opn_lst, opn_int, opn_str, opn_bl, opn_non, eq_self, ub_law_columns_11, ub_law_columns_10, ub_law_columns_9, ub_law_columns_8, ub_law_columns_7, ub_law_columns_6, ub_law_columns_5, ub_law_columns_4, ub_law_columns_3, ub_law_columns_2, ub_law_columns])
local macro_rules | `(tactic| fail "mini x_law_columns") => `(tactic| repeat (first | fail "mini fw" | fail "mini u_law_columns" | fail "mini fxx"))
theorem below_cols {cs : List Col} {n : Nat} : belowD n (colsD cs) = true := by
  show belowDs n (cs.map colD) = true
  refine belowDs_of fun y hy => ?_
  obtain ⟨c, _, rfl⟩ := List.mem_map.mp hy
  obtain ⟨x, k⟩ := c
  cases k with
  | num lo hi => rfl
  | wrd ws =>
    show (true && (((true && (belowDs n (ws.map .str) && true)) && true))) = true
    rw [show belowDs n (ws.map D.str) = true from bk_str (f := fun x => x) ws]
    rfl
def IC (t : Hm) (w : Bool) (ws ns : List Str) (i : Nat) (σ : Sg) (h2 : Hm) : Prop := ∃ (b : Br) (cs : List Col) (m : Nat) (x6 x7 x8 x9 x10 x11 x12 : Option D), σ = [some (.ref 1), some (.bl w), some (.lst (ws.map .str)), some (.lst (ns.map .str)), some (.ref (t.length + 2)), some (.int m), x6, x7, x8, x9, x10, x11, x12] ∧ h2 = hb b (t ++ [.lst (cs.map colD)]) ∧ b.ok ∧ ColsPre i m cs ∧ m ≤ 10000
theorem cols_tail {b : Br} {t : Hm} {w : Bool} {ws ns : List Str} (hns : ns = nms) {i m : Nat} {cs : List Col} {x7 x8 x10 x12 : Option D} {s : Int} {kD : D} {kd : Kd} {Q : Po} (hQ : ∀ σ h, IC t w ws ns (i + 1) σ h → Q.nx σ h) (o : b.ok) (pre : ColsPre i m cs) (hm : m ≤ 10000) (hi : i < 4) (ok : KdOk kd) (ek : kD = kdD kd) (es : s = (valsD kd).length) :
    (Res.guard (mulOk (m : Int) s)
        ((match atI [D.int 120, D.int 10000] (if w = true then 1 else 0) with
            | some y => Res.ok y (hb b (t ++ [MO.lst (List.map colD cs)]))
            | none => Res.stuck).bind
          fun y h2 => cmpD Cm.le (D.int ((m : Int) * s)) y h2)).wp
    (KIf G_law_columns b_law_columns_10 Blk.nil Blk.nil
      [some (D.ref 1), some (D.bl w), some (D.lst (List.map D.str ws)), some (D.lst (List.map D.str ns)),
        some (D.ref (List.length t + 2)), some (D.int (m : Int)), some (D.int (i : Int)), x7, x8, some (D.int s), x10, some kD, x12] Q) := by
  subst ek es
  have hL : ∃ L : Int, L ≤ 10000 ∧ atI [D.int 120, D.int 10000] (if w = true then 1 else 0) = some (.int L) := by
    cases w
    · exact ⟨120, by decide, rfl⟩
    · exact ⟨10000, by decide, rfl⟩
  obtain ⟨L, hL, eL⟩ := hL
  rw [eL, mulOk_l (by omega) (by omega)]
  fail "mini x_law_columns"
  by_cases c : (m : Int) * (valsD kd).length ≤ L
  · rw [decide_eq_true c]
    fail "mini x_law_columns"
    rw [mulOk_l (by omega) (by omega)]
    fail "mini x_law_columns"
    have hn : i < (ns.map D.str).length := by rw [hns]; exact hi
    rw [rcv_app lN]
    obtain ⟨x, hx⟩ : ∃ x, nms[i]? = some x := ⟨_, List.getElem?_eq_getElem hi⟩
    rw [atI_nat hn, List.getElem?_map, hns, hx, ← hns]
    simp only [Option.map_some]
    fail "mini x_law_columns"
    rw [app1 lN (Nat.lt_of_le_of_lt (by rw [List.length_map]; exact (pre_all pre).1) (by decide : 4 < LIM))]
    fail "mini x_law_columns"
    rw [← Int.natCast_mul]
    exact hQ _ _ ⟨b, cs ++ [⟨x, kd⟩], m * (valsD kd).length, _, _, _, _, _, _, _, rfl, by rw [List.map_append]; rfl, o, pre_add pre ok hx, by exact_mod_cast Int.le_trans c hL⟩
  · rw [decide_eq_false c]
    fail "mini x_law_columns"
    exact hQ _ _ ⟨b, cs, m, _, _, _, _, _, _, _, rfl, rfl, o, pre_skip pre, hm⟩
theorem cols_step2 {b3 : Br} {t : Hm} {w : Bool} {ws ns : List Str} (hns : ns = nms) {i m n : Nat} {lo sp : Int} {cs : List Col} {x10 x11 x12 : Option D} {Q : Po} (hQ : ∀ σ h, IC t w ws ns (i + 1) σ h → Q.nx σ h) (hws : ws ∈ W3) (o3 : b3.ok) (pre : ColsPre i m cs) (hm : m ≤ 10000) (hi4 : i < 4) (hlo : lo = 0 ∨ lo = -3 ∨ lo = 8 ∨ lo = -1000 ∨ lo = 970) (hsp : sp = 0 ∨ sp = 1 ∨ sp = 2 ∨ sp = 30) (n1 : (n : Int) < 6) :
    wpB G_law_columns b_law_columns_6 [some (.ref 1), some (.bl w), some (.lst (ws.map .str)), some (.lst (ns.map .str)), some (.ref (t.length + 2)), some (.int m), some (.int i), some (.int lo), some (.int sp), some (.int (1 + (n : Int))), x10, x11, x12] (hb b3 (t ++ [.lst (cs.map colD)])) Q := by
  fail "mini x_law_columns"
  obtain ⟨f, b4, e4, o4, f1⟩ := n_dab (t := t ++ [.lst (cs.map colD)]) 6 o3 (by omega) (by omega)
  rw [e4]
  fail "mini x_law_columns"
  obtain ⟨q, b5, e5, o5, q1⟩ := n_dab (t := t ++ [.lst (cs.map colD)]) 2 o4 (by omega) (by omega)
  rw [e5]
  fail "mini x_law_columns"
  by_cases c : (q : Int) = 0
  · rw [decide_eq_true c]
    fail "mini x_law_columns"
    exact cols_tail hns (kd := .num lo (lo + sp)) hQ o5 pre hm hi4 ⟨by omega, by omega, by omega, by omega, by omega, by omega⟩ rfl (by show sp + 1 = ((rngD lo _).length : Int); rw [rngD_length]; omega)
  · rw [decide_eq_false c]
    fail "mini x_law_columns"
    have wl := (W3_ok ws hws).1
    have wf := (W3_ok ws hws).2
    have wn := (wf f (by omega) (1 + n) (by omega)).1
    have wa := (wf f (by omega) (1 + n) (by omega)).2
    rw [show smallI (1 + (n : Int)) = true from smallI_mk (by omega) (by omega), show (1 + (n : Int)).toNat = 1 + n by omega, rngD_map0]
    rw [compR_enc (List.range (1 + n)) (fun i : Nat => D.int i) (fun j => D.str (ws.getD ((f + j) % 6) "")) (fun j hj t => ⟨_, rfl, ?_⟩) (by rw [List.length_range]; omega) (fun _ _ => rfl)]
    · rw [show ((List.range (1 + n)).map fun j => D.str (ws.getD ((f + j) % 6) "")) = (turnW ws f (1 + n)).map D.str by unfold turnW; rw [List.map_map]; rfl]
      fail "mini x_law_columns"
      have tl : (turnW ws f (1 + n)).length = 1 + n := by unfold turnW; rw [List.length_map, List.length_range]
      exact cols_tail hns (kd := .wrd (turnW ws f (1 + n))) hQ o5 pre hm hi4 ⟨by omega, by omega, fun x hx => List.all_eq_true.mp wa x hx, wn⟩ rfl (by show 1 + (n : Int) = (((turnW ws f (1 + n)).map D.str).length : Int); rw [List.length_map, tl]; omega)
    · fail "mini x_law_columns"
      have hlt : (f + j) % 6 < (ws.map D.str).length := by rw [List.length_map, wl]; exact Nat.mod_lt _ (by decide)
      rw [show ((f : Int) + j) % 6 = (((f + j) % 6 : Nat) : Int) by omega, atI_nat hlt, List.getElem?_map, List.getElem?_eq_getElem (by simpa using hlt)]
      fail "mini x_law_columns"
      rw [List.getD_eq_getElem?_getD, List.getElem?_eq_getElem (by simpa using hlt)]
      rfl
theorem cols_step {b : Br} {t : Hm} {w : Bool} {ws ns : List Str} (hns : ns = nms) {i m : Nat} {cs : List Col} {x7 x8 x9 x10 x11 x12 : Option D} {Q : Po} (hQ : ∀ σ h, IC t w ws ns (i + 1) σ h → Q.nx σ h) (hws : ws ∈ W3) (ob : b.ok) (pre : ColsPre i m cs) (hm : m ≤ 10000) (hi4 : i < 4) :
    wpB G_law_columns b_law_columns_5 [some (.ref 1), some (.bl w), some (.lst (ws.map .str)), some (.lst (ns.map .str)), some (.ref (t.length + 2)), some (.int m), some (.int i), x7, x8, x9, x10, x11, x12] (hb b (t ++ [.lst (cs.map colD)])) Q := by
  fail "mini x_law_columns"
  obtain ⟨y, b1, e1, o1, hy⟩ := s_pick (t := t ++ [.lst (cs.map colD)]) ob (.inl rfl) (xs := [0, -3, 8, -1000, 970].map D.int) (by intro z; cases z) (by simp [W3])
  rw [show [D.int 0, D.int (-3), D.int 8, D.int (-1000), D.int 970] = [0, -3, 8, -1000, 970].map D.int from rfl, e1]
  obtain ⟨lo, hlo, rfl⟩ := List.mem_map.mp hy
  fail "mini x_law_columns"
  obtain ⟨y, b2, e2, o2, hy⟩ := s_pick (t := t ++ [.lst (cs.map colD)]) o1 (.inl rfl) (xs := [0, 1, 2, 30].map D.int) (by intro z; cases z) (by simp [W3])
  rw [show [D.int 0, D.int 1, D.int 2, D.int 30] = [0, 1, 2, 30].map D.int from rfl, e2]
  obtain ⟨sp, hsp, rfl⟩ := List.mem_map.mp hy
  fail "mini x_law_columns"
  obtain ⟨n, b3, e3, o3, n1⟩ := n_dab (t := t ++ [.lst (cs.map colD)]) 6 o2 (by omega) (by omega)
  rw [e3]
  fail "mini fw"
  have hlo : lo = 0 ∨ lo = -3 ∨ lo = 8 ∨ lo = -1000 ∨ lo = 970 := by simpa using hlo
  have hsp : sp = 0 ∨ sp = 1 ∨ sp = 2 ∨ sp = 30 := by simpa using hsp
  exact cols_step2 hns hQ hws o3 pre hm hi4 hlo hsp n1
theorem cols_loop {b1 : Br} {t : Hm} {w : Bool} {ws ns : List Str} (hns : ns = nms) {x6 x7 x8 x9 x10 x11 x12 : Option D} {Q : Po} (hQ : ∀ b cs u, b.ok → ColsOk cs → Q.rt (colsD cs) (hb b (t ++ u))) (hws : ws ∈ W3) (o1 : b1.ok) :
    wpB G_law_columns b_law_columns_3 [some (.ref 1), some (.bl w), some (.lst (ws.map .str)), some (.lst (ns.map .str)), some (.ref (t.length + 2)), some (.int 1), x6, x7, x8, x9, x10, x11, x12] (hb b1 (t ++ [.lst []])) Q := by
  fail "mini x_law_columns"
  obtain ⟨n, b2, e2, o2, n1⟩ := n_dab (t := t ++ [.lst []]) 4 o1 (by omega) (by omega)
  rw [e2]
  fail "mini x_law_columns"
  rw [show smallI (1 + n) = true from smallI_mk (by omega) (by omega)]
  fail "mini x_law_columns"
  refine L_for (IC t w ws ns) ⟨b2, [], 1, _, _, _, _, _, _, _, rfl, rfl, o2, ⟨rfl, (fun c hc => by cases hc), List.nil_sublist _⟩, by decide⟩ ?_ ?_
  · rintro i d σ h2 hi ⟨b, cs, m, x6, x7, x8, x9, x10, x11, x12, rfl, rfl, ob, pre, hm⟩
    obtain ⟨hi4, rfl⟩ := rngD_get _ _ _ _ hi
    refine ⟨_, rfl, ?_⟩
    rw [Int.zero_add]
    exact cols_step hns (fun _ _ z => z) hws ob pre hm (by omega)
  · rintro σ h2 ⟨b, cs, m, x6, x7, x8, x9, x10, x11, x12, rfl, rfl, ob, pre, hm⟩
    fail "mini x_law_columns"
    have pa := pre_all pre
    rw [eq_nilP (k := 3) (by decide) lN (plain_lst (by rw [List.length_map]; omega) (List.all_eq_true.mpr fun v hv => by
      obtain ⟨c, hc, rfl⟩ := List.mem_map.mp hv
      exact plain_col (pre.2.1 c hc) (pa.2.1 c hc)))]
    fail "mini x_law_columns"
    cases hc : cs with
    | nil =>
      simp only [List.map_nil, List.isEmpty_nil, Bool.not_true]
      fail "mini x_law_columns"
      exact hQ b [⟨"one", .num 5 6⟩] _ ob one_ok
    | cons c cs' =>
      simp only [List.map_cons, List.isEmpty_cons, Bool.not_false]
      fail "mini x_law_columns"
      rw [tup_ref lN]
      fail "mini x_law_columns"
      exact hQ b (c :: cs') _ ob (pre_ok (by rw [← hc]; exact pre) (by simp) hm)
theorem s_cols {b : Br} {w : Bool} {t : Hm} (o : b.ok) : ∃ (cs : List Col) (b' : Br), d_law_columns [.ref 1, .bl w] (hb b t) = .ok (colsD cs) (hb b' t) ∧ b'.ok ∧ ColsOk cs := by
  have w : wpB G_law_columns b_law_columns (startD c_law_columns.N [.ref 1, .bl w]) (hb b t) (PoT T_cols [.ref 1, .bl w] (hb b t)) := by
    have fin : ∀ (b' : Br) (cs : List Col), b'.ok → ColsOk cs → T_cols [.ref 1, .bl w] (hb b t) (colsD cs) (hb b' t) := by
      intro b' cs o' oc b2 w2 t2 e1 e2 _
      obtain ⟨rfl, rfl⟩ := hb_inj e2
      exact ⟨b', cs, rfl, rfl, o', oc⟩
    fail "mini x_law_columns"
    obtain ⟨y, b1, e1, o1, hy⟩ := s_pick (t := t) o (.inl rfl) (xs := W3.map fun ws => D.lst (ws.map D.str)) (by intro z; cases z) (by simp [W3])
    rw [show [D.lst [D.str (Str.ofString "rome"), D.str (Str.ofString "oslo"), D.str (Str.ofString "bonn"), D.str (Str.ofString "lima"), D.str (Str.ofString "riga"), D.str (Str.ofString "baku")], D.lst [D.str (Str.ofString "a"), D.str (Str.ofString "aa"), D.str (Str.ofString "aaa"), D.str (Str.ofString "b"), D.str (Str.ofString "ab"), D.str (Str.ofString "ba")], D.lst [D.str (Str.ofString "zoo"), D.str (Str.ofString "abcdefgh"), D.str (Str.ofString "z"), D.str (Str.ofString "y"), D.str (Str.ofString "x"), D.str (Str.ofString "zo")]] = W3.map fun ws => D.lst (ws.map D.str) from rfl, e1]
    obtain ⟨ws, hws, rfl⟩ := List.mem_map.mp hy
    fail "mini fw"
    fail "mini u_law_columns"
    fail "mini fw"
    simp only [hb_len, hb_app]
    obtain ⟨ns, hns⟩ : ∃ ns : List Str, ns = nms := ⟨_, rfl⟩
    rw [show [D.str (Str.ofString "city"), D.str (Str.ofString "age"), D.str (Str.ofString "of"), D.str (Str.ofString "word")] = ns.map D.str by rw [hns]; rfl]
    exact cols_loop hns (fun b cs u ob oc => ⟨colsD cs, hb b t, fz_hb below_cols, fin b cs ob oc⟩) hws o1
  obtain ⟨r, h2, e, T⟩ := sp_law_columns rfl w
  obtain ⟨b', cs, rfl, rfl, o', oc⟩ := T b _ t rfl rfl o
  exact ⟨cs, b', e, o', oc⟩

/-! the law's sameness -/
def P_same : List D → D → Prop := fun ds r => ∃ (d : D) (k : Nat), ds = [d, d] ∧ k ≤ 64 ∧ plainD k d = true ∧ r = .bl true
noncomputable def G_law_same (dd : List D → Hm → Res D) : Gam := gamL [(n_law_same, dd)] []
theorem cg_law_same_law_same {dd : List D → Hm → Res D} {ds : List D} {h : Hm} : callG (G_law_same dd) n_law_same ds h = dd ds h := rfl
theorem N_law_same : c_law_same.N = (["found", "due", "k"] : List Str) := rfl
noncomputable def d_law_same : Nat → List D → Hm → Res D
  | 0 => fun _ _ => .stuck
  | k + 1 => denT (G_law_same (d_law_same k)) c_law_same.N 2 b_law_same (TR P_same)
theorem sp_law_same {k : Nat} {ds : List D} {h : Hm} (hl : ds.length = 2) (w : wpB (G_law_same (d_law_same k)) b_law_same (startD c_law_same.N ds) h (PoT (TR P_same) ds h)) : ∃ r h2, d_law_same (k + 1) ds h = .ok r h2 ∧ (TR P_same) ds h r h2 := denT_ok hl w
theorem ub_law_same_6 {Γ : Gam} {σ : Sg} {h : Hm} {P : Po} : wpB Γ b_law_same_6 σ h P = wpB Γ (.cons (.ret (.bl false)) .nil) σ h P := rfl
theorem ub_law_same_5 {Γ : Gam} {σ : Sg} {h : Hm} {P : Po} : wpB Γ b_law_same_5 σ h P = wpB Γ (.cons (.ret (.band (.cmp .eq (.bi .len (.cons (.v 0) .nil)) (.bi .len (.cons (.v 1) .nil))) (.bi .all (.cons (.comp false [("k", 2)] (.v 2) (.rng1 (.bi .len (.cons (.v 1) .nil))) .nil (.call n_law_same (.cons (.ix (.v 0) (.v 2)) (.cons (.ix (.v 1) (.v 2)) .nil)))) .nil)))) .nil) σ h P := rfl
theorem ub_law_same_4 {Γ : Gam} {σ : Sg} {h : Hm} {P : Po} : wpB Γ b_law_same_4 σ h P = wpB Γ (.cons (.ife (.bor (.cmp .ne (.isi (.v 0) .tuple) (.isi (.v 1) .tuple)) (.cmp .ne (.isi (.v 0) .list) (.isi (.v 1) .list))) b_law_same_6 .nil) b_law_same_5) σ h P := rfl
theorem ub_law_same_7 {Γ : Gam} {σ : Sg} {h : Hm} {P : Po} : wpB Γ b_law_same_7 σ h P = wpB Γ (.cons (.ret (.bl false)) .nil) σ h P := rfl
theorem ub_law_same_3 {Γ : Gam} {σ : Sg} {h : Hm} {P : Po} : wpB Γ b_law_same_3 σ h P = wpB Γ (.cons (.ret (.band (.cmp .eq (.isi (.v 0) .str) (.isi (.v 1) .str)) (.cmp .eq (.v 0) (.v 1)))) .nil) σ h P := rfl
theorem ub_law_same_2 {Γ : Gam} {σ : Sg} {h : Hm} {P : Po} : wpB Γ b_law_same_2 σ h P = wpB Γ (.cons (.ife (.bor (.cmp .ne (.isi (.v 0) .bool) (.isi (.v 1) .bool)) (.cmp .ne (.isi (.v 0) .int) (.isi (.v 1) .int))) b_law_same_7 .nil) b_law_same_3) σ h P := rfl
theorem ub_law_same {Γ : Gam} {σ : Sg} {h : Hm} {P : Po} : wpB Γ b_law_same σ h P = wpB Γ (.cons (.ife (.isiT (.v 1) [.tuple, .list]) b_law_same_4 .nil) b_law_same_2) σ h P := rfl
local macro_rules | `(tactic| fail "mini u_law_same") => `(tactic| simp only [N_law_same, cg_law_same_law_same, opn_tup, opn_lst, opn_int, opn_str, opn_bl, opn_non, eq_self, ub_law_same_6, ub_law_same_5, ub_law_same_4, ub_law_same_7, ub_law_same_3, ub_law_same_2, ub_law_same])
local macro_rules | `(tactic| fail "mini x_law_same") => `(tactic| repeat (first | fail "mini fw" | fail "mini u_law_same" | fail "mini fxx"))
theorem plain_at {k : Nat} {xs : List D} (p : xs.all (plainD k) = true) {i : Nat} (h : i < xs.length) : plainD k xs[i] = true := List.all_eq_true.mp p _ (List.getElem_mem h)
theorem e_law_same : ∀ (k : Nat) (d : D) {h : Hm}, k ≤ 64 → plainD k d = true → d_law_same (k + 1) [d, d] h = .ok (.bl true) h := by
  intro k
  induction k with
  | zero =>
    intro d h hk p
    have er := eq_refl (k := 0) (by decide) p h
    refine den_TR rfl (by rintro v' ⟨_, _, _, _, _, rfl⟩; rfl) ⟨d, 0, rfl, hk, p, rfl⟩ ?_
    cases d <;> first | exact Bool.noConfusion p | skip
    all_goals
      fail "mini x_law_same"
      first
        | exact .refl
        | (rw [er]; exact .refl)
        | (rw [show PyData.strOk _ = true from p]; exact .refl)
  | succ k ih =>
    intro d h hk p
    have er := eq_refl hk p h
    refine den_TR rfl (by rintro v' ⟨_, _, _, _, _, rfl⟩; rfl) ⟨d, k + 1, rfl, hk, p, rfl⟩ ?_
    cases d <;> first | exact Bool.noConfusion p | skip
    case tup xs =>
      have p : (decide (xs.length ≤ 1000) && xs.all (plainD k)) = true := p
      rw [Bool.and_eq_true, decide_eq_true_eq] at p
      fail "mini x_law_same"
      rw [show smallI (xs.length : Int) = true from smallI_mk (by omega) (by omega), Int.toNat_natCast, rngD_map0]
      fail "mini x_law_same"
      rw [compR_enc (List.range xs.length) (fun i : Nat => D.int i) (fun _ => .bl true) (fun j hj t => ⟨_, rfl, ?_⟩) (by rw [List.length_range]; omega) (fun _ _ => rfl), Res.bind_ok, all_bl]
      · rw [show ((List.range xs.length).all fun _ => true) = true by simp]
        fail "mini x_law_same"
        exact .refl
      · have hj : j < xs.length := List.mem_range.mp hj
        fail "mini x_law_same"
        rw [atI_nat hj, List.getElem?_eq_getElem hj]
        fail "mini x_law_same"
        exact ih _ (by omega) (plain_at p.2 hj)
    case lst xs =>
      have p : (decide (xs.length ≤ 1000) && xs.all (plainD k)) = true := p
      rw [Bool.and_eq_true, decide_eq_true_eq] at p
      fail "mini x_law_same"
      rw [show smallI (xs.length : Int) = true from smallI_mk (by omega) (by omega), Int.toNat_natCast, rngD_map0]
      fail "mini x_law_same"
      rw [compR_enc (List.range xs.length) (fun i : Nat => D.int i) (fun _ => .bl true) (fun j hj t => ⟨_, rfl, ?_⟩) (by rw [List.length_range]; omega) (fun _ _ => rfl), Res.bind_ok, all_bl]
      · rw [show ((List.range xs.length).all fun _ => true) = true by simp]
        fail "mini x_law_same"
        exact .refl
      · have hj : j < xs.length := List.mem_range.mp hj
        fail "mini x_law_same"
        rw [atI_nat hj, List.getElem?_eq_getElem hj]
        fail "mini x_law_same"
        exact ih _ (by omega) (plain_at p.2 hj)
    all_goals
      fail "mini x_law_same"
      first
        | exact .refl
        | (rw [er]; exact .refl)
        | (rw [show PyData.strOk _ = true from p]; exact .refl)
/-! a table drawn -/
def T_table : Tell := fun ds h r h' => ∀ (b : Br) (cs : List Col) (most : Int) (t : Hm), ds = [.ref 1, colsD cs, .int most] → h = hb b t → b.ok → ColsOk cs → 0 ≤ most → most ≤ 1000 → ∃ (b' : Br) (rs : List (List D)), r = tblD cs rs ∧ h' = hb b' t ∧ b'.ok ∧ (rs.length : Int) ≤ most ∧ ∀ r ∈ rs, rowB cs r = true
noncomputable def G_law_table : Gam := gamL [(n_law_dab, d_law_dab), (n_law_pick, d_law_pick), (n_law_row, d_law_row)] []
theorem cg_law_table_law_dab {ds : List D} {h : Hm} : callG G_law_table n_law_dab ds h = d_law_dab ds h := rfl
theorem cg_law_table_law_pick {ds : List D} {h : Hm} : callG G_law_table n_law_pick ds h = d_law_pick ds h := rfl
theorem cg_law_table_law_row {ds : List D} {h : Hm} : callG G_law_table n_law_row ds h = d_law_row ds h := rfl
theorem N_law_table : c_law_table.N = (["brush", "columns", "most", "rows", "k"] : List Str) := rfl
noncomputable def d_law_table : List D → Hm → Res D := denT G_law_table c_law_table.N 3 b_law_table T_table
theorem sp_law_table {ds : List D} {h : Hm} (hl : ds.length = 3) (w : wpB G_law_table b_law_table (startD c_law_table.N ds) h (PoT T_table ds h)) : ∃ r h2, d_law_table ds h = .ok r h2 ∧ T_table ds h r h2 := denT_ok hl w
theorem ub_law_table_4 {Γ : Gam} {σ : Sg} {h : Hm} {P : Po} : wpB Γ b_law_table_4 σ h P = wpB Γ (.cons (.ex (.meth .append (.v 3) (.cons (.ifx (.band (.cmp .ne (.v 3) (.lst .nil)) (.cmp .eq (.call n_law_dab (.cons (.v 0) (.cons (.int 4) .nil))) (.int 0))) (.call n_law_pick (.cons (.v 0) (.cons (.v 3) .nil))) (.call n_law_row (.cons (.v 0) (.cons (.v 1) .nil)))) .nil))) .nil) σ h P := rfl
theorem ub_law_table_3 {Γ : Gam} {σ : Sg} {h : Hm} {P : Po} : wpB Γ b_law_table_3 σ h P = wpB Γ (.cons (.ret (.tup (.cons (.v 1) (.cons (.bi .tuple (.cons (.v 3) .nil)) .nil)))) .nil) σ h P := rfl
theorem ub_law_table_2 {Γ : Gam} {σ : Sg} {h : Hm} {P : Po} : wpB Γ b_law_table_2 σ h P = wpB Γ (.cons (.for_ (.v 4) (.rng1 (.call n_law_dab (.cons (.v 0) (.cons (.op2 .add (.v 2) (.int 1)) .nil)))) b_law_table_4) b_law_table_3) σ h P := rfl
theorem ub_law_table {Γ : Gam} {σ : Sg} {h : Hm} {P : Po} : wpB Γ b_law_table σ h P = wpB Γ (.cons (.set 3 (.lstM .nil)) b_law_table_2) σ h P := rfl
local macro_rules | `(tactic| fail "mini u_law_table") => `(tactic| simp only [N_law_table, cg_law_table_law_dab, cg_law_table_law_pick, cg_law_table_law_row, opn_tup, opn_lst, opn_int, opn_str, opn_bl, opn_non, eq_self, ub_law_table_4, ub_law_table_3, ub_law_table_2, ub_law_table])
local macro_rules | `(tactic| fail "mini x_law_table") => `(tactic| repeat (first | fail "mini fw" | fail "mini u_law_table" | fail "mini fxx"))
theorem row_atom : ∀ {cs : List Col} {xs : List D}, (∀ c ∈ cs, KdOk c.kd) → rowB cs xs = true → ∀ v ∈ xs, plainD 0 v = true
  | [], [], _, _, v, hv => by cases hv
  | c :: cs, x :: xs, o, h, v, hv => by
    have h : (isVal c.kd x && rowB cs xs) = true := h
    rw [Bool.and_eq_true] at h
    rcases List.mem_cons.mp hv with rfl | hv
    · have z := h.1
      have oc := o c List.mem_cons_self
      cases k : c.kd <;> rw [k] at z oc <;> cases v <;> first | rfl | (exact Bool.noConfusion z) | skip
      exact word_ok (oc.2.2.1 _ (of_decide_eq_true z))
    · exact row_atom (fun c hc => o c (List.mem_cons_of_mem _ hc)) h.2 v hv
  | [], _ :: _, _, h, _, _ => by cases h
  | _ :: _, [], _, h, _, _ => by cases h
theorem plain_row {cs : List Col} {xs : List D} (o : ColsOk cs) (h : rowB cs xs = true) : plainD 1 (.tup xs) = true := plain_tup (by rw [rowB_len h]; have := o.four; omega) (List.all_eq_true.mpr (row_atom o.kd h))
theorem plain_rows {cs : List Col} {rs : List (List D)} (o : ColsOk cs) (l : rs.length ≤ 1000) (h : ∀ r ∈ rs, rowB cs r = true) : (rs.map D.tup).all (plainD 1) = true := List.all_eq_true.mpr fun v hv => by
  obtain ⟨r, hr, rfl⟩ := List.mem_map.mp hv
  exact plain_row o (h r hr)
theorem below_rows {cs : List Col} {rs : List (List D)} {n : Nat} (h : ∀ r ∈ rs, rowB cs r = true) : belowDs n (rs.map D.tup) = true := belowDs_of fun v hv => by
  obtain ⟨r, hr, rfl⟩ := List.mem_map.mp hv
  exact below_row (h r hr)
def IT (t : Hm) (cs : List Col) (most : Int) (i : Nat) (σ : Sg) (h2 : Hm) : Prop := ∃ (b : Br) (rs : List (List D)) (x : Option D), σ = [some (.ref 1), some (colsD cs), some (.int most), some (.ref (t.length + 2)), x] ∧ h2 = hb b (t ++ [.lst (rs.map .tup)]) ∧ b.ok ∧ rs.length = i ∧ ∀ r ∈ rs, rowB cs r = true
theorem table_add {b : Br} {t : Hm} {cs : List Col} {most : Int} {i : Nat} {rs : List (List D)} {vs : List D} {x : Option D} {Q : Po} (hQ : ∀ σ h, IT t cs most (i + 1) σ h → Q.nx σ h) (o : b.ok) (l : rs.length = i) (li : i ≤ 1000) (hr : ∀ r ∈ rs, rowB cs r = true) (hv : rowB cs vs = true) :
    (mtD .append (.ref (t.length + 2)) [.tup vs] (hb b (t ++ [.lst (rs.map .tup)]))).wp (KEx G_law_table .nil [some (.ref 1), some (colsD cs), some (.int most), some (.ref (t.length + 2)), x] Q) := by
  rw [app1 lN (Nat.lt_of_le_of_lt (by rw [List.length_map]; omega) (by decide : 1000 < LIM)), sN]
  refine hQ _ _ ⟨b, rs ++ [vs], x, rfl, by rw [List.map_append]; rfl, o, by simp [l], fun r h => ?_⟩
  rcases List.mem_append.mp h with h | h
  · exact hr r h
  · rw [List.mem_singleton.mp h]; exact hv
theorem table_step {b : Br} {t : Hm} {cs : List Col} {most : Int} {i : Nat} {rs : List (List D)} {x : Option D} {Q : Po} (hQ : ∀ σ h, IT t cs most (i + 1) σ h → Q.nx σ h) (o : b.ok) (oc : ColsOk cs) (l : rs.length = i) (li : i ≤ 1000) (hr : ∀ r ∈ rs, rowB cs r = true) :
    wpB G_law_table b_law_table_4 [some (.ref 1), some (colsD cs), some (.int most), some (.ref (t.length + 2)), x] (hb b (t ++ [.lst (rs.map .tup)])) Q := by
  have fresh : ∀ b, b.ok → ∃ (vs : List D) (b' : Br), d_law_row [.ref 1, colsD cs] (hb b (t ++ [.lst (rs.map .tup)])) = .ok (.tup vs) (hb b' (t ++ [.lst (rs.map .tup)])) ∧ b'.ok ∧ rowB cs vs = true := fun b o => s_row o oc.kd (by have := oc.four; omega)
  fail "mini x_law_table"
  rw [rcv_app lN]
  fail "mini x_law_table"
  rw [eq_nilP (k := 1) (by decide) lN (plain_lst (by rw [List.length_map]; omega) (plain_rows oc (by omega) hr))]
  fail "mini x_law_table"
  cases hc : rs with
  | nil =>
    rw [hc] at fresh hr
    simp only [List.map_nil, List.isEmpty_nil, Bool.not_true] at fresh ⊢
    fail "mini x_law_table"
    obtain ⟨vs, b', e, o', hv⟩ := fresh b o
    rw [e]
    fail "mini x_law_table"
    exact table_add (rs := []) hQ o' (by rw [hc] at l; exact l) li hr hv
  | cons r rs' =>
    rw [← hc]
    rw [show (rs.map D.tup).isEmpty = false by rw [hc]; rfl]
    simp only [Bool.not_false]
    fail "mini x_law_table"
    obtain ⟨n, b1, e1, o1, n1⟩ := n_dab (t := t ++ [.lst (rs.map .tup)]) 4 o (by omega) (by omega)
    rw [e1]
    fail "mini x_law_table"
    by_cases c : (n : Int) = 0
    · rw [decide_eq_true c]
      fail "mini x_law_table"
      obtain ⟨y, b2, e2, o2, hy⟩ := s_pick (t := t ++ [.lst (rs.map .tup)]) (d := .ref (t.length + 2)) o1 (.inr (.inr ⟨t.length, rfl, by simp⟩)) (xs := rs.map .tup) (by rw [hc]; simp) (by rw [List.length_map]; omega)
      rw [e2]
      obtain ⟨vs, hvs, rfl⟩ := List.mem_map.mp hy
      fail "mini x_law_table"
      exact table_add hQ o2 l li hr (hr vs hvs)
    · rw [decide_eq_false c]
      fail "mini x_law_table"
      obtain ⟨vs, b', e, o', hv⟩ := fresh b1 o1
      rw [e]
      fail "mini x_law_table"
      exact table_add hQ o' l li hr hv
theorem s_table {b : Br} {cs : List Col} {most : Int} {t : Hm} (o : b.ok) (oc : ColsOk cs) (m0 : 0 ≤ most) (m1 : most ≤ 1000) : ∃ (rs : List (List D)) (b' : Br), d_law_table [.ref 1, colsD cs, .int most] (hb b t) = .ok (tblD cs rs) (hb b' t) ∧ b'.ok ∧ (rs.length : Int) ≤ most ∧ ∀ r ∈ rs, rowB cs r = true := by
  have w : wpB G_law_table b_law_table (startD c_law_table.N [.ref 1, colsD cs, .int most]) (hb b t) (PoT T_table [.ref 1, colsD cs, .int most] (hb b t)) := by
    fail "mini x_law_table"
    obtain ⟨n, b1, e1, o1, n1⟩ := n_dab (t := t ++ [.lst []]) (most + 1) o (by omega) (by omega)
    rw [e1]
    fail "mini x_law_table"
    rw [show smallI (n : Int) = true from smallI_mk (by omega) (by omega), Int.toNat_natCast]
    fail "mini x_law_table"
    refine L_for (IT t cs most) ⟨b1, [], _, rfl, rfl, o1, rfl, fun r h => by cases h⟩ ?_ ?_
    · rintro i d σ h2 hi ⟨b, rs, x, rfl, rfl, ob, hl, hr⟩
      obtain ⟨hi4, rfl⟩ := rngD_get _ _ _ _ hi
      exact ⟨_, rfl, table_step (fun _ _ z => z) ob oc hl (by omega) hr⟩
    · rintro σ h2 ⟨b2, rs, x, rfl, rfl, ob, hl, hr⟩
      rw [rngD_length] at hl
      fail "mini x_law_table"
      rw [tup_ref lN]
      fail "mini x_law_table"
      refine ⟨tblD cs rs, hb b2 t, fz_hb (d := tblD cs rs) ?_, ?_⟩
      · show (belowD _ (colsD cs) && (belowDs _ (rs.map D.tup) && true)) = true
        rw [below_cols, below_rows hr]
        rfl
      · intro b3 cs3 most3 t3 e1 e2 _ _ _ _
        obtain ⟨_, e1, e3⟩ := in3 e1
        injection e3 with e3
        obtain ⟨rfl, rfl⟩ := hb_inj e2
        rw [← colsD_inj e1]
        exact ⟨b2, rs, rfl, rfl, ob, by omega, hr⟩
  obtain ⟨r, h2, e, T⟩ := sp_law_table rfl w
  obtain ⟨b', rs, rfl, rfl, o', hl, hr⟩ := T b cs most t rfl rfl o oc m0 m1
  exact ⟨rs, b', e, o', hl, hr⟩

/-! a value bent -/
theorem sIx_n (n d i : Nat) : HT.sIx n d (some (i : Int)) = min i n := by
  unfold HT.sIx
  dsimp only
  rw [if_neg (by omega), Int.toNat_natCast]
theorem sIx_0 (n d : Nat) : HT.sIx n d none = d := rfl
theorem cut_to {α : Type} (xs : List α) (n : Nat) : cutL xs none (some (n : Int)) = xs.take n := by
  unfold cutL
  rw [sIx_n, sIx_0, List.drop_zero, Nat.sub_zero]
  rcases Nat.le_total n xs.length with h | h
  · rw [Nat.min_eq_left h]
  · rw [Nat.min_eq_right h, List.take_of_length_le (Nat.le_refl _), List.take_of_length_le h]
theorem cut_from {α : Type} (xs : List α) (n : Nat) : cutL xs (some (n : Int)) none = xs.drop n := by
  unfold cutL
  rw [sIx_n, sIx_0]
  rcases Nat.le_total n xs.length with h | h
  · rw [Nat.min_eq_left h]
    exact List.take_of_length_le (by rw [List.length_drop]; omega)
  · rw [Nat.min_eq_right h, List.drop_of_length_le (Nat.le_refl _), List.drop_of_length_le h]
    simp
theorem cut_one {α : Type} {xs : List α} {n : Nat} {x : α} (e : xs[n]? = some x) : cutL xs (some (n : Int)) (some ((n : Int) + 1)) = [x] := by
  have hn := (List.getElem?_eq_some_iff.mp e).1
  have e2 := (List.getElem?_eq_some_iff.mp e).2
  unfold cutL
  rw [show ((n : Int) + 1) = ((n + 1 : Nat) : Int) by omega, sIx_n, sIx_n, Nat.min_eq_left (by omega), Nat.min_eq_left (by omega), List.drop_eq_getElem_cons hn, e2, show n + 1 - n = 1 by omega]
  rfl
theorem cast1 {n : Nat} : ((n : Int) + 1) = ((n + 1 : Nat) : Int) := by omega
def Rl (v r : D) : Prop := (∀ m L k, m ≤ 400 → gvD m L k v = true → gvD (2 * m + 12) (L + 140) (k + 1) r = true) ∧ wtD r ≤ 2 * wtD v + 500
theorem rl_mem {m L k : Nat} {xs : List D} {y : D} (hm : m ≤ 400) (g : gvD m L (k + 1) (.tup xs) = true) (h : y ∈ xs ∨ ∃ e ∈ xs, Rl e y) : gvD (2 * m + 12) (L + 140) (k + 1) y = true := by
  rcases h with h | ⟨e, he, h⟩
  · exact gv_up (by omega) (by omega) (by omega) (gv_mem g y h)
  · exact h.1 m L k hm (gv_mem g e he)
theorem rl_tup {xs ys : List D} (hl : ys.length ≤ 2 * xs.length + 12) (hm : ∀ y ∈ ys, y ∈ xs ∨ ∃ e ∈ xs, Rl e y) (hw : wtDs ys ≤ 2 * wtDs xs + 500) : Rl (.tup xs) (.tup ys) := by
  refine ⟨fun m L k m4 g => ?_, by show wtDs ys + 3 ≤ 2 * (wtDs xs + 3) + 500; omega⟩
  cases k with
  | zero => exact Bool.noConfusion g
  | succ k =>
    have := gv_len g
    exact gv_tupM (by omega) fun y hy => rl_mem m4 g (hm y hy)
theorem rl_lst {xs ys : List D} (hl : ys.length ≤ 2 * xs.length + 12) (hm : ∀ y ∈ ys, y ∈ xs ∨ ∃ e ∈ xs, Rl e y) (hw : wtDs ys ≤ 2 * wtDs xs + 500) : Rl (.tup xs) (.lst ys) := by
  refine ⟨fun m L k m4 g => ?_, by show wtDs ys + 2 ≤ 2 * (wtDs xs + 3) + 500; omega⟩
  cases k with
  | zero => exact Bool.noConfusion g
  | succ k =>
    have := gv_len g
    exact gv_lstM (by omega) fun y hy => rl_mem m4 g (hm y hy)
theorem log_of_lt {n k : Nat} (k0 : 0 < k) (h : n < 2 ^ k) : n.log2 < k := log_small h k0
theorem rl_int {i j : Int} (h : j.natAbs ≤ 2 * i.natAbs + 2 ^ 133) : Rl (.int i) (.int j) := by
  have key : j.natAbs.log2 < i.natAbs.log2 + 136 := by
    refine log_small ?_ (by omega)
    have a : i.natAbs < 2 ^ (i.natAbs.log2 + 1) := Nat.lt_log2_self
    have b : 2 ^ (i.natAbs.log2 + 136) = 2 ^ (i.natAbs.log2 + 1) * 2 ^ 135 := by rw [← Nat.pow_add]
    have c : 1 ≤ 2 ^ (i.natAbs.log2 + 1) := Nat.one_le_two_pow
    generalize 2 ^ (i.natAbs.log2 + 1) = p at a b c
    rw [b]
    have d : 2 ^ 133 * 4 = 2 ^ 135 := by decide
    have e : 2 * p ≤ p * 2 ^ 133 := by
      rw [Nat.mul_comm]
      exact Nat.mul_le_mul_left _ (by decide)
    have f : 2 ^ 133 ≤ p * 2 ^ 133 := Nat.le_mul_of_pos_left _ c
    rw [← d, ← Nat.mul_assoc]
    omega
  refine ⟨fun m L k m4 g => ?_, by show j.natAbs.log2 + 3 ≤ 2 * (i.natAbs.log2 + 3) + 500; omega⟩
  rw [gv_int] at g ⊢
  have := of_decide_eq_true g
  exact decide_eq_true (by omega)
theorem rl_str {x y : Str} (h : y.length ≤ x.length + 8) (s : PyData.strOk x = true → PyData.strOk y = true) : Rl (.str x) (.str y) := by
  refine ⟨fun m L k m4 g => ?_, by show 10 * y.length + 2 ≤ 2 * (10 * x.length + 2) + 500; omega⟩
  rw [gv_str, Bool.and_eq_true] at g ⊢
  have := of_decide_eq_true g.2
  exact ⟨s g.1, decide_eq_true (by omega)⟩
/-- a value that stands in the text -/
theorem rl_con {v r : D} (g : gvD 12 140 1 r = true) (w : wtD r ≤ 500) : Rl v r :=
  ⟨fun m L k m4 _ => gv_up (by omega) (by omega) (by omega) g, by omega⟩
def T_bent : Tell := fun ds h r h' => ∀ (b : Br) (v : D) (t : Hm), ds = [.ref 1, v] → h = hb b t → b.ok → (∃ m L k, m ≤ 400 ∧ gvD m L k v = true) → ∃ b' : Br, h' = hb b' t ∧ b'.ok ∧ Rl v r
noncomputable def G_law_bent (dd : List D → Hm → Res D) : Gam := gamL [(n_law_dab, d_law_dab), (n_law_pick, d_law_pick), (n_law_bent, dd)] []
theorem cg_law_bent_law_dab {dd : List D → Hm → Res D} {ds : List D} {h : Hm} : callG (G_law_bent dd) n_law_dab ds h = d_law_dab ds h := rfl
theorem cg_law_bent_law_pick {dd : List D → Hm → Res D} {ds : List D} {h : Hm} : callG (G_law_bent dd) n_law_pick ds h = d_law_pick ds h := rfl
theorem cg_law_bent_law_bent {dd : List D → Hm → Res D} {ds : List D} {h : Hm} : callG (G_law_bent dd) n_law_bent ds h = dd ds h := rfl
theorem N_law_bent : c_law_bent.N = (["brush", "value", "at", "way", "words", "odd"] : List Str) := rfl
noncomputable def d_law_bent : Nat → List D → Hm → Res D
  | 0 => fun _ _ => .stuck
  | k + 1 => denT (G_law_bent (d_law_bent k)) c_law_bent.N 2 b_law_bent T_bent
theorem sp_law_bent {k : Nat} {ds : List D} {h : Hm} (hl : ds.length = 2) (w : wpB (G_law_bent (d_law_bent k)) b_law_bent (startD c_law_bent.N ds) h (PoT T_bent ds h)) : ∃ r h2, d_law_bent (k + 1) ds h = .ok r h2 ∧ T_bent ds h r h2 := denT_ok hl w
theorem ub_law_bent_13 {Γ : Gam} {σ : Sg} {h : Hm} {P : Po} : wpB Γ b_law_bent_13 σ h P = wpB Γ (.cons (.ret (.op2 .add (.slice (.v 1) .none (.some (.v 2))) (.slice (.v 1) (.some (.op2 .add (.v 2) (.int 1))) .none))) .nil) σ h P := rfl
theorem ub_law_bent_14 {Γ : Gam} {σ : Sg} {h : Hm} {P : Po} : wpB Γ b_law_bent_14 σ h P = wpB Γ (.cons (.ret (.op2 .add (.op2 .add (.slice (.v 1) .none (.some (.v 2))) (.slice (.v 1) (.some (.v 2)) (.some (.op2 .add (.v 2) (.int 1))))) (.slice (.v 1) (.some (.v 2)) .none))) .nil) σ h P := rfl
theorem ub_law_bent_15 {Γ : Gam} {σ : Sg} {h : Hm} {P : Po} : wpB Γ b_law_bent_15 σ h P = wpB Γ (.cons (.ret (.ix (.lst (.cons (.rev (.v 1)) (.cons (.bi .list (.cons (.v 1) .nil)) (.cons (.op2 .add (.v 1) (.v 1)) .nil)))) (.call n_law_dab (.cons (.v 0) (.cons (.int 3) .nil))))) .nil) σ h P := rfl
theorem ub_law_bent_12 {Γ : Gam} {σ : Sg} {h : Hm} {P : Po} : wpB Γ b_law_bent_12 σ h P = wpB Γ (.cons (.ret (.op2 .add (.op2 .add (.slice (.v 1) .none (.some (.v 2))) (.tup (.cons (.call n_law_bent (.cons (.v 0) (.cons (.ix (.v 1) (.v 2)) .nil))) .nil))) (.slice (.v 1) (.some (.op2 .add (.v 2) (.int 1))) .none))) .nil) σ h P := rfl
theorem ub_law_bent_11 {Γ : Gam} {σ : Sg} {h : Hm} {P : Po} : wpB Γ b_law_bent_11 σ h P = wpB Γ (.cons (.ife (.cmp .eq (.v 3) (.int 2)) b_law_bent_15 .nil) b_law_bent_12) σ h P := rfl
theorem ub_law_bent_10 {Γ : Gam} {σ : Sg} {h : Hm} {P : Po} : wpB Γ b_law_bent_10 σ h P = wpB Γ (.cons (.ife (.cmp .eq (.v 3) (.int 1)) b_law_bent_14 .nil) b_law_bent_11) σ h P := rfl
theorem ub_law_bent_9 {Γ : Gam} {σ : Sg} {h : Hm} {P : Po} : wpB Γ b_law_bent_9 σ h P = wpB Γ (.cons (.ife (.cmp .eq (.v 3) (.int 0)) b_law_bent_13 .nil) b_law_bent_10) σ h P := rfl
theorem ub_law_bent_8 {Γ : Gam} {σ : Sg} {h : Hm} {P : Po} : wpB Γ b_law_bent_8 σ h P = wpB Γ (.cons (.par 2 3 (.call n_law_dab (.cons (.v 0) (.cons (.bi .len (.cons (.v 1) .nil)) .nil))) (.call n_law_dab (.cons (.v 0) (.cons (.int 14) .nil)))) b_law_bent_9) σ h P := rfl
theorem ub_law_bent_16 {Γ : Gam} {σ : Sg} {h : Hm} {P : Po} : wpB Γ b_law_bent_16 σ h P = wpB Γ (.cons (.ret (.call n_law_pick (.cons (.v 0) (.cons (.lst (.cons (.op2 .add (.v 1) (.int 1)) (.cons (.op2 .sub (.v 1) (.int 1)) (.cons (.op2 .sub (.int 0) (.v 1)) (.cons (.op2 .mul (.v 1) (.int 2)) (.cons (.int 0) (.cons (.int 1) (.cons (.int 20) (.cons (.int 21) (.cons (.neg (.int 21)) (.cons (.int 100) (.cons (.int 101) (.cons (.int 1000) (.cons (.int 1001) (.cons (.neg (.int 1001)) (.cons (.op2 .add (.v 1) (.int 31)) (.cons (.op2 .pow (.int 10) (.int 40)) .nil))))))))))))))))) .nil)))) .nil) σ h P := rfl
theorem ub_law_bent_18 {Γ : Gam} {σ : Sg} {h : Hm} {P : Po} : wpB Γ b_law_bent_18 σ h P = wpB Γ (.cons (.ret (.op2 .add (.op2 .add (.slice (.v 1) .none (.some (.v 2))) (.call n_law_pick (.cons (.v 0) (.cons (.lst (.cons (.str "") (.cons (.str "A") (.cons (.str "z") (.cons (.str "1") (.cons (.str " ") (.cons (.str "aa") (.cons (.str "
") (.cons (.str "~") .nil))))))))) .nil)))) (.slice (.v 1) (.some (.op2 .add (.v 2) (.call n_law_dab (.cons (.v 0) (.cons (.int 2) .nil))))) .none))) .nil) σ h P := rfl
theorem ub_law_bent_17 {Γ : Gam} {σ : Sg} {h : Hm} {P : Po} : wpB Γ b_law_bent_17 σ h P = wpB Γ (.cons (.set 2 (.call n_law_dab (.cons (.v 0) (.cons (.bi .len (.cons (.v 1) .nil)) .nil)))) b_law_bent_18) σ h P := rfl
theorem ub_law_bent_7 {Γ : Gam} {σ : Sg} {h : Hm} {P : Po} : wpB Γ b_law_bent_7 σ h P = wpB Γ (.cons (.ret (.call n_law_pick (.cons (.v 0) (.cons (.v 5) .nil)))) .nil) σ h P := rfl
theorem ub_law_bent_6 {Γ : Gam} {σ : Sg} {h : Hm} {P : Po} : wpB Γ b_law_bent_6 σ h P = wpB Γ (.cons (.set 5 (.op2 .add (.v 4) (.lst (.cons .non (.cons (.bl true) (.cons (.bl false) (.cons (.int 0) (.cons (.int 1) (.cons (.neg (.int 1)) (.cons (.tup .nil) (.cons (.lst .nil) (.cons (.tup (.cons (.str "one") .nil)) (.cons (.tup (.cons (.str "number") (.cons (.int 1) .nil))) (.cons (.tup (.cons (.str "of") (.cons (.int 0) .nil))) (.cons (.tup (.cons (.str "of") (.cons (.int 1) .nil))) (.cons (.tup (.cons (.str "word") (.cons (.int 0) .nil))) (.cons (.tup (.cons (.str "word") (.cons (.int 1) .nil))) (.cons (.tup (.cons (.str "is") (.cons (.int 0) (.cons (.str "rome") .nil)))) (.cons (.lst (.cons (.v 1) .nil)) (.cons (.tup (.cons (.v 1) .nil)) .nil)))))))))))))))))))) b_law_bent_7) σ h P := rfl
theorem ub_law_bent_5 {Γ : Gam} {σ : Sg} {h : Hm} {P : Po} : wpB Γ b_law_bent_5 σ h P = wpB Γ (.cons (.set 4 (.op2 .add (.v 4) (.lst (.cons (.str "each") (.cons (.str "count") (.cons (.str "sum") (.cons (.str "least") (.cons (.str "most") (.cons (.str "mean") (.cons (.str "abcdefghi") (.cons (.str "rome") .nil))))))))))) b_law_bent_6) σ h P := rfl
theorem ub_law_bent_4 {Γ : Gam} {σ : Sg} {h : Hm} {P : Po} : wpB Γ b_law_bent_4 σ h P = wpB Γ (.cons (.set 4 (.lst (.cons (.str "") (.cons (.str "a") (.cons (.str "one") (.cons (.str "number") (.cons (.str "of") (.cons (.str "add") (.cons (.str "times") (.cons (.str "bin") (.cons (.str "is") (.cons (.str "below") (.cons (.str "same") (.cons (.str "not") (.cons (.str "and") (.cons (.str "or") (.cons (.str "word") (.cons (.str "point") (.cons (.str "bar") (.cons (.str "line") .nil)))))))))))))))))))) b_law_bent_5) σ h P := rfl
theorem ub_law_bent_3 {Γ : Gam} {σ : Sg} {h : Hm} {P : Po} : wpB Γ b_law_bent_3 σ h P = wpB Γ (.cons (.ife (.band (.isi (.v 1) .str) (.band (.cmp .ne (.v 1) (.str "")) (.cmp .eq (.call n_law_dab (.cons (.v 0) (.cons (.int 2) .nil))) (.int 0)))) b_law_bent_17 .nil) b_law_bent_4) σ h P := rfl
theorem ub_law_bent_2 {Γ : Gam} {σ : Sg} {h : Hm} {P : Po} : wpB Γ b_law_bent_2 σ h P = wpB Γ (.cons (.ife (.band (.isi (.v 1) .int) (.band (.bnot (.isi (.v 1) .bool)) (.cmp .gt (.call n_law_dab (.cons (.v 0) (.cons (.int 4) .nil))) (.int 0)))) b_law_bent_16 .nil) b_law_bent_3) σ h P := rfl
theorem ub_law_bent {Γ : Gam} {σ : Sg} {h : Hm} {P : Po} : wpB Γ b_law_bent σ h P = wpB Γ (.cons (.ife (.band (.isi (.v 1) .tuple) (.band (.cmp .ne (.v 1) (.tup .nil)) (.cmp .gt (.call n_law_dab (.cons (.v 0) (.cons (.int 7) .nil))) (.int 0)))) b_law_bent_8 .nil) b_law_bent_2) σ h P := rfl
local macro_rules | `(tactic| fail "mini u_law_bent") => `(tactic| simp only [N_law_bent, cg_law_bent_law_dab, cg_law_bent_law_pick, cg_law_bent_law_bent, opn_tup, opn_lst, opn_int, opn_str, opn_bl, opn_non, eq_self, ub_law_bent_13, ub_law_bent_14, ub_law_bent_15, ub_law_bent_12, ub_law_bent_11, ub_law_bent_10, ub_law_bent_9, ub_law_bent_8, ub_law_bent_16, ub_law_bent_18, ub_law_bent_17, ub_law_bent_7, ub_law_bent_6, ub_law_bent_5, ub_law_bent_4, ub_law_bent_3, ub_law_bent_2, ub_law_bent])
local macro_rules | `(tactic| fail "mini x_law_bent") => `(tactic| repeat (first | fail "mini fw" | fail "mini u_law_bent" | fail "mini fxx"))
def BentSp (n : Nat) : Prop := ∀ ⦃b : Br⦄ ⦃v : D⦄ ⦃t : Hm⦄ ⦃m L : Nat⦄, b.ok → m ≤ 400 → gvD m L n v = true → ∃ (r : D) (b' : Br), d_law_bent (n + 1) [.ref 1, v] (hb b t) = .ok r (hb b' t) ∧ b'.ok ∧ Rl v r
def EndB (v : D) (t : Hm) (Q : Po) : Prop := ∀ (b' : Br) (r : D), b'.ok → Rl v r → Q.rt r (hb b' t)
theorem limOk {n : Nat} (h : n ≤ 1000000) : decide (n ≤ LIM) = true := decide_eq_true (Nat.le_trans h (by decide))
theorem bn_tup {n : Nat} {dd : List D → Hm → Res D} (ih : ∀ ⦃b : Br⦄ ⦃v : D⦄ ⦃t : Hm⦄ ⦃m L : Nat⦄, b.ok → m ≤ 400 → gvD m L n v = true → ∃ (r : D) (b' : Br), dd [.ref 1, v] (hb b t) = .ok r (hb b' t) ∧ b'.ok ∧ Rl v r) {b : Br} {t : Hm} {m L : Nat} {xs : List D} {x2 x3 x4 x5 : Option D} {Q : Po} (hQ : EndB (.tup xs) t Q) (o : b.ok) (m4 : m ≤ 400) (g : gvD m L (n + 1) (.tup xs) = true) (ne : xs ≠ []) :
    wpB (G_law_bent dd) b_law_bent_8 [some (.ref 1), some (.tup xs), x2, x3, x4, x5] (hb b t) Q := by
  have pos := List.length_pos_iff.mpr ne
  have lx := gv_len g
  fail "mini x_law_bent"
  obtain ⟨p, b1, e1, o1, p1⟩ := n_dab (t := t) (xs.length : Int) o (by omega) (by omega)
  rw [e1]
  fail "mini x_law_bent"
  obtain ⟨w, b2, e2, o2, w1⟩ := n_dab (t := t) 14 o1 (by omega) (by omega)
  rw [e2]
  fail "mini x_law_bent"
  have hp : p < xs.length := by omega
  obtain ⟨x, ex⟩ : ∃ x, xs[p]? = some x := ⟨_, List.getElem?_eq_getElem hp⟩
  have xm := List.mem_of_getElem? ex
  have wa := wts_at ex
  have wm := wts_mem xm
  by_cases c0 : (w : Int) = 0
  · rw [decide_eq_true c0]
    fail "mini x_law_bent"
    rw [cut_to, cast1, cut_from, limOk (by rw [List.length_take, List.length_drop]; omega)]
    fail "mini x_law_bent"
    refine hQ b2 _ o2 (rl_tup (by rw [List.length_append, List.length_take, List.length_drop]; omega) (fun y hy => .inl ?_) (by rw [wts_app]; omega))
    rcases List.mem_append.mp hy with h | h
    · exact List.mem_of_mem_take h
    · exact List.mem_of_mem_drop h
  rw [decide_eq_false c0]
  fail "mini x_law_bent"
  by_cases c1 : (w : Int) = 1
  · rw [decide_eq_true c1]
    fail "mini x_law_bent"
    have wc := wts_cut xs p
    rw [cut_to, cut_one ex, cut_from, limOk (by rw [List.length_take, List.length_singleton]; omega)]
    fail "mini x_law_bent"
    rw [limOk (by rw [List.length_append, List.length_take, List.length_drop, List.length_singleton]; omega)]
    fail "mini x_law_bent"
    refine hQ b2 _ o2 (rl_tup (by rw [List.length_append, List.length_append, List.length_take, List.length_drop, List.length_singleton]; omega) (fun y hy => .inl ?_) ?_)
    · rcases List.mem_append.mp hy with h | h
      · rcases List.mem_append.mp h with h | h
        · exact List.mem_of_mem_take h
        · rw [List.mem_singleton.mp h]; exact xm
      · exact List.mem_of_mem_drop h
    · rw [wts_app, wts_app]
      show wtDs _ + (wtD x + 2 + 0) + wtDs _ ≤ _
      omega
  rw [decide_eq_false c1]
  fail "mini x_law_bent"
  by_cases c2 : (w : Int) = 2
  · rw [decide_eq_true c2]
    fail "mini x_law_bent"
    rw [limOk (by omega)]
    fail "mini x_law_bent"
    obtain ⟨q, b3, e3, o3, q1⟩ := n_dab (t := t) 3 o2 (by omega) (by omega)
    rw [e3]
    fail "mini x_law_bent"
    rcases (show q = 0 ∨ q = 1 ∨ q = 2 by omega) with rfl | rfl | rfl
    · rw [show atI [D.tup xs.reverse, D.lst xs, D.tup (xs ++ xs)] ((0 : Nat) : Int) = some (.tup xs.reverse) from at0 _ _]
      fail "mini x_law_bent"
      exact hQ b3 _ o3 (rl_tup (by rw [List.length_reverse]; omega) (fun y hy => .inl (List.mem_reverse.mp hy)) (by rw [wts_rev]; omega))
    · rw [show atI [D.tup xs.reverse, D.lst xs, D.tup (xs ++ xs)] ((1 : Nat) : Int) = some (.lst xs) from at1 _ _ _]
      fail "mini x_law_bent"
      exact hQ b3 _ o3 (rl_lst (by omega) (fun y hy => .inl hy) (by omega))
    · rw [show atI [D.tup xs.reverse, D.lst xs, D.tup (xs ++ xs)] ((2 : Nat) : Int) = some (.tup (xs ++ xs)) from at2 _ _ _ _]
      fail "mini x_law_bent"
      refine hQ b3 _ o3 (rl_tup (by rw [List.length_append]; omega) (fun y hy => .inl ?_) (by rw [wts_app]; omega))
      rcases List.mem_append.mp hy with h | h <;> exact h
  rw [decide_eq_false c2]
  fail "mini x_law_bent"
  rw [atI_nat hp, ex]
  fail "mini x_law_bent"
  obtain ⟨r, b3, e3, o3, rr⟩ := ih (t := t) o2 m4 (gv_mem g x xm)
  rw [e3]
  fail "mini x_law_bent"
  have wr := rr.2
  rw [cut_to, cast1, cut_from, limOk (by rw [List.length_take]; show _ + 1 ≤ _; omega)]
  fail "mini x_law_bent"
  rw [limOk (by rw [List.length_append, List.length_take, List.length_drop, List.length_singleton]; omega)]
  fail "mini x_law_bent"
  refine hQ b3 _ o3 (rl_tup (by rw [List.length_append, List.length_append, List.length_take, List.length_drop, List.length_singleton]; omega) (fun y hy => ?_) ?_)
  · rcases List.mem_append.mp hy with h | h
    · rcases List.mem_append.mp h with h | h
      · exact .inl (List.mem_of_mem_take h)
      · rw [List.mem_singleton.mp h]; exact .inr ⟨x, xm, rr⟩
    · exact .inl (List.mem_of_mem_drop h)
  · rw [wts_app, wts_app]
    show wtDs _ + (wtD r + 2 + 0) + wtDs _ ≤ _
    omega

theorem bn_int {dd : List D → Hm → Res D} {b : Br} {t : Hm} {i : Int} {x2 x3 x4 x5 : Option D} {Q : Po} (hQ : EndB (.int i) t Q) (o : b.ok) :
    wpB (G_law_bent dd) b_law_bent_16 [some (.ref 1), some (.int i), x2, x3, x4, x5] (hb b t) Q := by
  fail "mini x_law_bent"
  rw [mulOk_r (by decide) (by decide)]
  fail "mini x_law_bent"
  rw [show powOk 10 40 = true by decide, show (10 : Int) ^ (Int.toNat 40) = 10000000000000000000000000000000000000000 by decide]
  fail "mini x_law_bent"
  obtain ⟨y, b1, e1, o1, hy⟩ := s_pick (t := t) o (.inl rfl) (xs := [i + 1, i - 1, 0 - i, i * 2, 0, 1, 20, 21, -21, 100, 101, 1000, 1001, -1001, i + 31, 10000000000000000000000000000000000000000].map D.int) (by intro z; cases z) (by simp)
  rw [show [D.int (i + 1), D.int (i - 1), D.int (0 - i), D.int (i * 2), D.int 0, D.int 1, D.int 20, D.int 21, D.int (-21), D.int 100, D.int 101, D.int 1000, D.int 1001, D.int (-1001), D.int (i + 31), D.int 10000000000000000000000000000000000000000] = [i + 1, i - 1, 0 - i, i * 2, 0, 1, 20, 21, -21, 100, 101, 1000, 1001, -1001, i + 31, 10000000000000000000000000000000000000000].map D.int from rfl, e1]
  obtain ⟨j, hj, rfl⟩ := List.mem_map.mp hy
  refine hQ b1 _ o1 (rl_int ?_)
  have hj : j = i + 1 ∨ j = i - 1 ∨ j = 0 - i ∨ j = i * 2 ∨ j = 0 ∨ j = 1 ∨ j = 20 ∨ j = 21 ∨ j = -21 ∨ j = 100 ∨ j = 101 ∨ j = 1000 ∨ j = 1001 ∨ j = -1001 ∨ j = i + 31 ∨ j = 10000000000000000000000000000000000000000 := by simpa using hj
  rcases hj with rfl | rfl | rfl | rfl | rfl | rfl | rfl | rfl | rfl | rfl | rfl | rfl | rfl | rfl | rfl | rfl <;> omega
theorem cutS_ok {z : Str} {lo hi : Option Int} (h : PyData.strOk z = true) : PyData.strOk (cutS z lo hi) = true := by
  rw [okS] at h ⊢
  intro c hc
  unfold cutS at hc
  have hc : c ∈ List.take (HT.sIx z.length z.length hi - HT.sIx z.length 0 lo) (List.drop (HT.sIx z.length 0 lo) z.cps.toList) := by simpa using hc
  exact h c (List.mem_of_mem_drop (List.mem_of_mem_take hc))
theorem cutS_len {z : Str} {lo hi : Option Int} : (cutS z lo hi).length = min (HT.sIx z.length z.length hi - HT.sIx z.length 0 lo) (z.length - HT.sIx z.length 0 lo) := by
  show (List.toArray _).size = _
  rw [List.size_toArray, List.length_take, List.length_drop, Array.length_toList]
  rfl
theorem cutS_to {z : Str} {n : Nat} : (cutS z none (some (n : Int))).length ≤ n := by
  rw [cutS_len, sIx_n, sIx_0]
  omega
theorem cutS_from {z : Str} {n : Nat} : (cutS z (some (n : Int)) none).length ≤ z.length - n := by
  rw [cutS_len, sIx_n, sIx_0]
  omega
theorem bn_str {dd : List D → Hm → Res D} {b : Br} {t : Hm} {x : Str} {x2 x3 x4 x5 : Option D} {Q : Po} (hQ : EndB (.str x) t Q) (o : b.ok) (l : x.length ≤ 1000) (ne : x.length ≠ 0) :
    wpB (G_law_bent dd) b_law_bent_17 [some (.ref 1), some (.str x), x2, x3, x4, x5] (hb b t) Q := by
  fail "mini x_law_bent"
  rw [limOk (by omega)]
  fail "mini x_law_bent"
  obtain ⟨p, b1, e1, o1, p1⟩ := n_dab (t := t) (x.length : Int) o (by omega) (by omega)
  rw [e1]
  fail "mini x_law_bent"
  rw [limOk (show x.length ≤ 1000000 by omega)]
  fail "mini x_law_bent"
  obtain ⟨y, b2, e2, o2, hy⟩ := s_pick (t := t) o1 (.inl rfl) (xs := (["", "A", "z", "1", " ", "aa", "\n", "~"] : List String).map fun s => D.str (Str.ofString s)) (by intro z; cases z) (by simp)
  rw [show [D.str (Str.ofString ""), D.str (Str.ofString "A"), D.str (Str.ofString "z"), D.str (Str.ofString "1"), D.str (Str.ofString " "), D.str (Str.ofString "aa"), D.str (Str.ofString "\n"), D.str (Str.ofString "~")] = (["", "A", "z", "1", " ", "aa", "\n", "~"] : List String).map fun s => D.str (Str.ofString s) from rfl, e2]
  obtain ⟨s, hs, rfl⟩ := List.mem_map.mp hy
  have ls : (Str.ofString s).length ≤ 2 := by
    rw [lit_len]
    have hs : s = "" ∨ s = "A" ∨ s = "z" ∨ s = "1" ∨ s = " " ∨ s = "aa" ∨ s = "\n" ∨ s = "~" := by simpa using hs
    rcases hs with rfl | rfl | rfl | rfl | rfl | rfl | rfl | rfl <;> decide
  have lt := cutS_to (z := x) (n := p)
  fail "mini x_law_bent"
  rw [limOk (by omega)]
  fail "mini x_law_bent"
  obtain ⟨q, b3, e3, o3, q1⟩ := n_dab (t := t) 2 o2 (by omega) (by omega)
  rw [e3]
  fail "mini x_law_bent"
  rw [show ((p : Int) + (q : Int)) = ((p + q : Nat) : Int) from (Int.natCast_add p q).symm]
  have lf := cutS_from (z := x) (n := p + q)
  rw [show decide ((cutS x none (some (p : Int)) ++ Str.ofString s).length + (cutS x (some ((p + q : Nat) : Int)) none).length ≤ LIM) = true from limOk (by rw [Str.length_append]; omega)]
  fail "mini x_law_bent"
  exact hQ b3 _ o3 (rl_str (by rw [Str.length_append, Str.length_append]; omega) fun sx => okS_app (okS_app (cutS_ok sx) okS_lit) (cutS_ok sx))
def oddW : List String := ["", "a", "one", "number", "of", "add", "times", "bin", "is", "below", "same", "not", "and", "or", "word", "point", "bar", "line", "each", "count", "sum", "least", "most", "mean", "abcdefghi", "rome"]
def oddC : List D := [.non, .bl true, .bl false, .int 0, .int 1, .int (-1), .tup [], .lst [], .tup [.str "one"], .tup [.str "number", .int 1], .tup [.str "of", .int 0], .tup [.str "of", .int 1], .tup [.str "word", .int 0], .tup [.str "word", .int 1], .tup [.str "is", .int 0, .str "rome"]]
theorem oddW_ok : ∀ s ∈ oddW, s.length ≤ 12 := by decide
theorem oddC_ok : (oddC.all fun d => gvD 12 140 1 d && decide (wtD d ≤ 500)) = true := by decide +kernel
theorem odd_rl {v y : D} (hy : y ∈ oddW.map (fun s => D.str (Str.ofString s)) ++ (oddC ++ [.lst [v], .tup [v]])) : Rl v y := by
  rcases List.mem_append.mp hy with h | h
  · obtain ⟨s, hs, rfl⟩ := List.mem_map.mp h
    have l := oddW_ok s hs
    exact rl_con (gv_lit l) (by show 10 * (Str.ofString s).length + 2 ≤ 500; rw [lit_len]; omega)
  · rcases List.mem_append.mp h with h | h
    · have := List.all_eq_true.mp oddC_ok y h
      rw [Bool.and_eq_true] at this
      exact rl_con this.1 (of_decide_eq_true this.2)
    · have h : y = .lst [v] ∨ y = .tup [v] := by simpa using h
      rcases h with rfl | rfl
      · refine ⟨fun m L k m4 g => gv_lstM (by simp) fun z hz => ?_, by show wtD v + 2 + 0 + 2 ≤ _; omega⟩
        rw [List.mem_singleton.mp hz]
        exact gv_up (by omega) (by omega) (Nat.le_refl _) g
      · refine ⟨fun m L k m4 g => gv_tupM (by simp) fun z hz => ?_, by show wtD v + 2 + 0 + 3 ≤ _; omega⟩
        rw [List.mem_singleton.mp hz]
        exact gv_up (by omega) (by omega) (Nat.le_refl _) g
theorem odd_pick {b : Br} {t : Hm} {v : D} {Q : Po} {xs : List D} (hQ : EndB v t Q) (o : b.ok) (e : xs = oddW.map (fun s => D.str (Str.ofString s)) ++ (oddC ++ [.lst [v], .tup [v]])) : (d_law_pick [.ref 1, .lst xs] (hb b t)).wp (KRet Q) := by
  subst e
  have l : (oddW.map (fun s => D.str (Str.ofString s)) ++ (oddC ++ [D.lst [v], .tup [v]])).length = 43 := rfl
  obtain ⟨y, b1, e1, o1, hy⟩ := s_pick (t := t) o (.inl rfl) (xs := oddW.map (fun s => D.str (Str.ofString s)) ++ (oddC ++ [.lst [v], .tup [v]])) (by intro z; rw [z] at l; cases l) (by rw [l]; decide)
  rw [e1]
  exact hQ b1 y o1 (odd_rl hy)
theorem ne_empty {x : Str} {h : Hm} (s : PyData.strOk x = true) : cmpD .ne (.str x) (.str (Str.ofString "")) h = .ok (!decide (x = Str.ofString "")) h := by
  show (eqD (.str x) (.str (Str.ofString "")) h).bind _ = _
  rw [eq_strG, s, ok_lit]
  rfl
theorem empty_iff {x : Str} : x = Str.ofString "" ↔ x.length = 0 := by
  constructor
  · rintro rfl
    rw [lit_len]
    rfl
  · intro h
    obtain ⟨c⟩ := x
    have h : c.size = 0 := h
    have : c = #[] := Array.size_eq_zero_iff.mp h
    rw [this, Str.ofString_eq_toList]
    rfl
theorem eq_nilT0 {h : Hm} : eqD (.tup []) (.tup []) h = .ok true h := eq_refl (k := 1) (by decide) rfl h
theorem bn_all {n : Nat} {dd : List D → Hm → Res D} (ih : ∀ j, n = j + 1 → ∀ ⦃b : Br⦄ ⦃v : D⦄ ⦃t : Hm⦄ ⦃m L : Nat⦄, b.ok → m ≤ 400 → gvD m L j v = true → ∃ (r : D) (b' : Br), dd [.ref 1, v] (hb b t) = .ok r (hb b' t) ∧ b'.ok ∧ Rl v r) {b : Br} {t : Hm} {m L : Nat} {v : D} {x2 x3 x4 x5 : Option D} {Q : Po} (hQ : EndB v t Q) (o : b.ok) (m4 : m ≤ 400) (n6 : n ≤ 60) (g : gvD m L n v = true) :
    wpB (G_law_bent dd) b_law_bent [some (.ref 1), some v, x2, x3, x4, x5] (hb b t) Q := by
  have p := gv_plain (k := n) (d := v) (by omega : m ≤ 1000) g
  cases v
  case tup xs =>
    cases n with
    | zero => exact Bool.noConfusion g
    | succ n =>
      cases xs with
      | nil =>
        fail "mini x_law_bent"
        rw [eq_nilT0]
        fail "mini x_law_bent"
        exact odd_pick hQ o rfl
      | cons y ys =>
        fail "mini x_law_bent"
        rw [ne_nilT (by omega) p]
        fail "mini x_law_bent"
        obtain ⟨w, b1, e1, o1, w1⟩ := n_dab (t := t) 7 o (by omega) (by omega)
        rw [e1]
        fail "mini x_law_bent"
        by_cases c : (0 : Int) < w
        · rw [decide_eq_true c, k_ifT]
          exact bn_tup (n := n) (ih n rfl) (fun b' r o' rl => hQ b' r o' rl) o1 m4 g (by intro z; cases z)
        · rw [decide_eq_false c]
          fail "mini x_law_bent"
          exact odd_pick hQ o1 rfl
  case int i =>
    fail "mini x_law_bent"
    obtain ⟨w, b1, e1, o1, w1⟩ := n_dab (t := t) 4 o (by omega) (by omega)
    rw [e1]
    fail "mini x_law_bent"
    by_cases c : (0 : Int) < w
    · rw [decide_eq_true c, k_ifT]
      exact bn_int (fun b' r o' rl => hQ b' r o' rl) o1
    · rw [decide_eq_false c]
      fail "mini x_law_bent"
      exact odd_pick hQ o1 rfl
  case str x =>
    rw [gv_str, Bool.and_eq_true] at g
    have l := of_decide_eq_true g.2
    fail "mini x_law_bent"
    rw [g.1]
    fail "mini x_law_bent"
    by_cases c : x = Str.ofString ""
    · rw [decide_eq_true c]
      fail "mini x_law_bent"
      exact odd_pick hQ o rfl
    · rw [decide_eq_false c]
      fail "mini x_law_bent"
      obtain ⟨w, b1, e1, o1, w1⟩ := n_dab (t := t) 2 o (by omega) (by omega)
      rw [e1]
      fail "mini x_law_bent"
      by_cases c2 : (w : Int) = 0
      · rw [decide_eq_true c2, k_ifT]
        exact bn_str (fun b' r o' rl => hQ b' r o' rl) o1 (by omega) (fun z => c (empty_iff.mpr z))
      · rw [decide_eq_false c2]
        fail "mini x_law_bent"
        exact odd_pick hQ o1 rfl
  case non =>
    fail "mini x_law_bent"
    exact odd_pick hQ o rfl
  case bl c =>
    fail "mini x_law_bent"
    exact odd_pick hQ o rfl
  case lst ys =>
    fail "mini x_law_bent"
    exact odd_pick hQ o rfl
  all_goals (cases n <;> exact Bool.noConfusion g)
theorem s_bent : ∀ n, n ≤ 60 → BentSp n := by
  intro n
  induction n with
  | zero =>
    intro n6 b v t m L o m4 g
    have w : wpB (G_law_bent (d_law_bent 0)) b_law_bent (startD c_law_bent.N [.ref 1, v]) (hb b t) (PoT T_bent [.ref 1, v] (hb b t)) :=
      bn_all (n := 0) (fun j e => by cases e) (fun b' r o' rl => po_rt (by
        intro b2 v2 t2 e1 e2 _ _
        obtain ⟨_, e1⟩ := in2 e1
        obtain ⟨rfl, rfl⟩ := hb_inj e2
        rw [← e1]
        exact ⟨b', rfl, o', rl⟩)) o m4 (by omega) g
    obtain ⟨r, h2, e, T⟩ := sp_law_bent rfl w
    obtain ⟨b', rfl, o', rl⟩ := T b v t rfl rfl o ⟨m, L, 0, m4, g⟩
    exact ⟨r, b', e, o', rl⟩
  | succ n ih =>
    intro n6 b v t m L o m4 g
    have w : wpB (G_law_bent (d_law_bent (n + 1))) b_law_bent (startD c_law_bent.N [.ref 1, v]) (hb b t) (PoT T_bent [.ref 1, v] (hb b t)) :=
      bn_all (n := n + 1) (fun j e => by cases e; exact ih (by omega)) (fun b' r o' rl => po_rt (by
        intro b2 v2 t2 e1 e2 _ _
        obtain ⟨_, e1⟩ := in2 e1
        obtain ⟨rfl, rfl⟩ := hb_inj e2
        rw [← e1]
        exact ⟨b', rfl, o', rl⟩)) o m4 (by omega) g
    obtain ⟨r, h2, e, T⟩ := sp_law_bent rfl w
    obtain ⟨b', rfl, o', rl⟩ := T b v t rfl rfl o ⟨m, L, n + 1, m4, g⟩
    exact ⟨r, b', e, o', rl⟩

/-! the law's own judgement (k12) -/
theorem at_map12 {α : Type} {f : α → D} {xs : List α} {k : Nat} {d : D} (e : (xs.map f)[k]? = some d) : atI (xs.map f) (k : Int) = some d := by
  rw [atI_nat (List.getElem?_eq_some_iff.mp e).1, e]
def P_law_int : List D → D → Prop := fun ds r => ∃ v a b, ds = [v, .int a, .int b] ∧ opn v = true ∧ r = .bl (btw a v b)
noncomputable def G_law_int : Gam := gamL [] []
theorem N_law_int : c_law_int.N = (["value", "low", "high"] : List Str) := rfl
noncomputable def d_law_int : List D → Hm → Res D := denT G_law_int c_law_int.N 3 b_law_int (TR P_law_int)
theorem sp_law_int {ds : List D} {h : Hm} (hl : ds.length = 3) (w : wpB G_law_int b_law_int (startD c_law_int.N ds) h (PoT (TR P_law_int) ds h)) : ∃ r h2, d_law_int ds h = .ok r h2 ∧ (TR P_law_int) ds h r h2 := denT_ok hl w
theorem ub_law_int {Γ : Gam} {σ : Sg} {h : Hm} {P : Po} : wpB Γ b_law_int σ h P = wpB Γ (.cons (.ret (.band (.isi (.v 0) .int) (.band (.bnot (.isi (.v 0) .bool)) (.chain .le .le (.v 1) (.v 0) (.v 2))))) .nil) σ h P := rfl
local macro_rules | `(tactic| fail "mini u_law_int") => `(tactic| simp only [N_law_int, opn_tup, opn_lst, opn_int, opn_str, opn_bl, opn_non, eq_self, ub_law_int])
local macro_rules | `(tactic| fail "mini x_law_int") => `(tactic| repeat (first | fail "mini fw" | fail "mini u_law_int" | fail "mini fxx"))
theorem e_law_int {a b : Int} {v : D} {h : Hm} (o : opn v = true) : d_law_int [v, .int a, .int b] h = .ok (.bl (btw a v b)) h := by
  refine den_TR rfl ?_ ⟨v, a, b, rfl, o, rfl⟩ ?_
  · rintro v' ⟨v2, a', b', e, _, rfl⟩
    obtain ⟨rfl, e1, e3⟩ := in3 e
    injection e1 with e1
    injection e3 with e3
    rw [e1, e3]
  · cases v <;> first | exact Bool.noConfusion o | (fail "mini x_law_int"; exact .refl)
def P_law_is_row : List D → D → Prop := fun ds r => ∃ (cs : List Col) (v : D), ds = [colsD cs, v] ∧ cs.length ≤ 1000 ∧ opn1 v = true ∧ r = .bl (isRow cs v)
noncomputable def G_law_is_row : Gam := gamL [(n_law_int, d_law_int)] []
theorem cg_law_is_row_law_int {ds : List D} {h : Hm} : callG G_law_is_row n_law_int ds h = d_law_int ds h := rfl
theorem N_law_is_row : c_law_is_row.N = (["columns", "value", "k", "kind", "right"] : List Str) := rfl
noncomputable def d_law_is_row : List D → Hm → Res D := denT G_law_is_row c_law_is_row.N 2 b_law_is_row (TR P_law_is_row)
theorem sp_law_is_row {ds : List D} {h : Hm} (hl : ds.length = 2) (w : wpB G_law_is_row b_law_is_row (startD c_law_is_row.N ds) h (PoT (TR P_law_is_row) ds h)) : ∃ r h2, d_law_is_row ds h = .ok r h2 ∧ (TR P_law_is_row) ds h r h2 := denT_ok hl w
theorem ub_law_is_row_4 {Γ : Gam} {σ : Sg} {h : Hm} {P : Po} : wpB Γ b_law_is_row_4 σ h P = wpB Γ (.cons (.ret (.bl false)) .nil) σ h P := rfl
theorem ub_law_is_row_8 {Γ : Gam} {σ : Sg} {h : Hm} {P : Po} : wpB Γ b_law_is_row_8 σ h P = wpB Γ (.cons (.ret (.bl false)) .nil) σ h P := rfl
theorem ub_law_is_row_7 {Γ : Gam} {σ : Sg} {h : Hm} {P : Po} : wpB Γ b_law_is_row_7 σ h P = wpB Γ (.cons (.ife (.bnot (.v 4)) b_law_is_row_8 .nil) .nil) σ h P := rfl
theorem ub_law_is_row_6 {Γ : Gam} {σ : Sg} {h : Hm} {P : Po} : wpB Γ b_law_is_row_6 σ h P = wpB Γ (.cons (.set 4 (.ifx (.cmp .eq (.ix (.v 3) (.int 0)) (.str "word")) (.band (.isi (.ix (.v 1) (.v 2)) .str) (.cmp .isin (.ix (.v 1) (.v 2)) (.ix (.v 3) (.int 1)))) (.call n_law_int (.cons (.ix (.v 1) (.v 2)) (.cons (.ix (.v 3) (.int 1)) (.cons (.ix (.v 3) (.int 2)) .nil)))))) b_law_is_row_7) σ h P := rfl
theorem ub_law_is_row_5 {Γ : Gam} {σ : Sg} {h : Hm} {P : Po} : wpB Γ b_law_is_row_5 σ h P = wpB Γ (.cons (.set 3 (.ix (.ix (.v 0) (.v 2)) (.int 1))) b_law_is_row_6) σ h P := rfl
theorem ub_law_is_row_3 {Γ : Gam} {σ : Sg} {h : Hm} {P : Po} : wpB Γ b_law_is_row_3 σ h P = wpB Γ (.cons (.ret (.bl true)) .nil) σ h P := rfl
theorem ub_law_is_row_2 {Γ : Gam} {σ : Sg} {h : Hm} {P : Po} : wpB Γ b_law_is_row_2 σ h P = wpB Γ (.cons (.for_ (.v 2) (.rng1 (.bi .len (.cons (.v 0) .nil))) b_law_is_row_5) b_law_is_row_3) σ h P := rfl
theorem ub_law_is_row {Γ : Gam} {σ : Sg} {h : Hm} {P : Po} : wpB Γ b_law_is_row σ h P = wpB Γ (.cons (.ife (.bor (.bnot (.isi (.v 1) .tuple)) (.cmp .ne (.bi .len (.cons (.v 1) .nil)) (.bi .len (.cons (.v 0) .nil)))) b_law_is_row_4 .nil) b_law_is_row_2) σ h P := rfl
local macro_rules | `(tactic| fail "mini u_law_is_row") => `(tactic| simp only [N_law_is_row, cg_law_is_row_law_int, e_law_int, opn_tup, opn_lst, opn_int, opn_str, opn_bl, opn_non, eq_self, ub_law_is_row_4, ub_law_is_row_8, ub_law_is_row_7, ub_law_is_row_6, ub_law_is_row_5, ub_law_is_row_3, ub_law_is_row_2, ub_law_is_row])
local macro_rules | `(tactic| fail "mini x_law_is_row") => `(tactic| repeat (first | fail "mini fw" | fail "mini u_law_is_row" | fail "mini fxx"))
theorem val_step {cs : List Col} {xs : List D} {i : Nat} {c : Col} {x : D} {x3 x4 : Option D} {h : Hm} {Q : Po} (hc : cs[i]? = some c) (hx : xs[i]? = some x) (o : opn x = true)
    (yes : isVal c.kd x = true → ∀ y3 y4, Q.nx [some (.tup (cs.map colD)), some (.tup xs), some (.int (i : Int)), y3, y4] h) (no : isVal c.kd x = false → Q.rt (.bl false) h) :
    wpB G_law_is_row b_law_is_row_5 [some (.tup (cs.map colD)), some (.tup xs), some (.int (i : Int)), x3, x4] h Q := by
  have ic : i < cs.length := (List.getElem?_eq_some_iff.mp hc).1
  have ix : i < xs.length := (List.getElem?_eq_some_iff.mp hx).1
  have g3 : (cs.map colD)[i]? = some (colD c) := by rw [List.getElem?_map, hc]; rfl
  have fin : ∀ t : Bool, isVal c.kd x = t → ∀ kD, wpB G_law_is_row b_law_is_row_7 [some (.tup (cs.map colD)), some (.tup xs), some (.int (i : Int)), some kD, some (.bl t)] h Q := by
    intro t et kD
    cases t with
    | true =>
      fail "mini x_law_is_row"
      exact yes et _ _
    | false =>
      fail "mini x_law_is_row"
      exact no et
  obtain ⟨nm, kd⟩ := c
  cases kd with
  | num lo hi =>
    rw [colD_eq, kdD_num] at g3
    rw [show b_law_is_row_5 = .cons (.set 3 (.ix (.ix (.v 0) (.v 2)) (.int 1))) b_law_is_row_6 from rfl, show b_law_is_row_6 = .cons (.set 4 (.ifx (.cmp .eq (.ix (.v 3) (.int 0)) (.str "word")) (.band (.isi (.ix (.v 1) (.v 2)) .str) (.cmp .isin (.ix (.v 1) (.v 2)) (.ix (.v 3) (.int 1)))) (.call n_law_int (.cons (.ix (.v 1) (.v 2)) (.cons (.ix (.v 3) (.int 1)) (.cons (.ix (.v 3) (.int 2)) .nil)))))) b_law_is_row_7 from rfl]
    fail "mini fw"
    rw [at_map12 g3]
    repeat (first | fail "mini fw" | fail "mini fxx")
    rw [atI_nat ix, hx]
    repeat (first | fail "mini fw" | fail "mini fxx")
    rw [show callG G_law_is_row n_law_int [x, D.int lo, D.int hi] h = d_law_int [x, D.int lo, D.int hi] h from rfl, e_law_int o]
    rw [k_set]
    exact fin _ rfl _
  | wrd ws =>
    rw [colD_eq, kdD_wrd] at g3
    rw [show b_law_is_row_5 = .cons (.set 3 (.ix (.ix (.v 0) (.v 2)) (.int 1))) b_law_is_row_6 from rfl, show b_law_is_row_6 = .cons (.set 4 (.ifx (.cmp .eq (.ix (.v 3) (.int 0)) (.str "word")) (.band (.isi (.ix (.v 1) (.v 2)) .str) (.cmp .isin (.ix (.v 1) (.v 2)) (.ix (.v 3) (.int 1)))) (.call n_law_int (.cons (.ix (.v 1) (.v 2)) (.cons (.ix (.v 3) (.int 1)) (.cons (.ix (.v 3) (.int 2)) .nil)))))) b_law_is_row_7 from rfl]
    fail "mini fw"
    rw [at_map12 g3]
    repeat (first | fail "mini fw" | fail "mini fxx")
    rw [atI_nat ix, hx]
    repeat (first | fail "mini fw" | fail "mini fxx")
    rw [opn_open o]
    have key : ∀ t : Bool, isVal (.wrd ws) x = t → wpB G_law_is_row b_law_is_row_7 [some (.tup (cs.map colD)), some (.tup xs), some (.int (i : Int)), some (.tup [.str "word", .tup (ws.map .str)]), some (.bl t)] h Q := fun t et => fin t et _
    cases x <;> first | exact Bool.noConfusion o | skip
    all_goals first
      | (repeat (first | fail "mini fw" | fail "mini fxx"))
    all_goals first
      | exact key _ rfl
      | (rw [any_str, all_flat]; repeat (first | fail "mini fw" | fail "mini fxx"))
    all_goals exact key _ rfl
theorem row_all {cs : List Col} {xs : List D} (hl : xs.length = cs.length) : rowB cs xs = true ↔ ∀ (i : Nat) (c : Col) (x : D), cs[i]? = some c → xs[i]? = some x → isVal c.kd x = true := by
  rw [rowB_zip hl, List.all_eq_true]
  constructor
  · intro h i c x hc hx
    exact h (c, x) (List.mem_of_getElem? (i := i) (by rw [List.getElem?_zip_eq_some]; exact ⟨hc, hx⟩))
  · intro h p hp
    obtain ⟨i, hi⟩ := List.mem_iff_getElem?.mp hp
    rw [List.getElem?_zip_eq_some] at hi
    exact h i p.1 p.2 hi.1 hi.2
theorem e_law_is_row {cs : List Col} {v : D} {h : Hm} (l : cs.length ≤ 1000) (o : opn1 v = true) : d_law_is_row [colsD cs, v] h = .ok (.bl (isRow cs v)) h := by
  refine den_TR rfl ?_ ⟨cs, v, rfl, l, o, rfl⟩ ?_
  · rintro v' ⟨c', v2, e, _, _, rfl⟩
    obtain ⟨e1, rfl⟩ := in2 e
    rw [colsD_inj e1]
  · unfold opn1 at o
    rw [Bool.and_eq_true] at o
    unfold colsD
    cases v
    case tup xs =>
      fail "mini x_law_is_row"
      by_cases hl : xs.length = cs.length
      · rw [show decide ((xs.length : Int) = ((cs.map colD).length : Int)) = true from decide_eq_true (by rw [List.length_map]; omega)]
        fail "mini x_law_is_row"
        rw [List.length_map, show smallI (cs.length : Int) = true from smallI_mk (by omega) (by omega)]
        fail "mini x_law_is_row"
        rw [Int.toNat_natCast]
        refine L_for (fun i σ h2 => h2 = h ∧ (∀ (j : Nat) (c : Col) (x : D), j < i → cs[j]? = some c → xs[j]? = some x → isVal c.kd x = true) ∧ ∃ x2 x3 x4, σ = [some (.tup (cs.map colD)), some (.tup xs), x2, x3, x4]) ⟨rfl, fun j c x hj => absurd hj (Nat.not_lt_zero _), _, _, _, rfl⟩ ?_ ?_
        · rintro i d σ h2 hi ⟨rfl, hv, x2, x3, x4, rfl⟩
          obtain ⟨hi4, rfl⟩ := rngD_get _ _ _ _ hi
          obtain ⟨c, hc⟩ : ∃ c, cs[i]? = some c := ⟨_, List.getElem?_eq_getElem hi4⟩
          obtain ⟨x, hx⟩ : ∃ x, xs[i]? = some x := ⟨_, List.getElem?_eq_getElem (by omega)⟩
          refine ⟨_, rfl, ?_⟩
          rw [Int.zero_add]
          refine val_step hc hx (List.all_eq_true.mp o.2 x (List.mem_of_getElem? hx)) (fun yes y3 y4 => ⟨rfl, fun j c' x' hj hc' hx' => ?_, _, _, _, rfl⟩) fun no => ?_
          · by_cases q : j = i
            · subst q
              rw [hc] at hc'
              rw [hx] at hx'
              cases hc'
              cases hx'
              exact yes
            · exact hv j c' x' (by omega) hc' hx'
          · have e : isRow cs (.tup xs) = false := by
              cases k : rowB cs xs with
              | false => exact k
              | true =>
                have := (row_all hl).mp k i c x hc hx
                rw [no] at this
                cases this
            show Fz h2 (.bl false) h2 (.bl (isRow cs (.tup xs))) h2
            rw [e]
            exact .refl
        · rintro σ h2 ⟨rfl, hv, x2, x3, x4, rfl⟩
          rw [rngD_length] at hv
          have e : isRow cs (.tup xs) = true := (row_all hl).mpr fun i c x hc hx => hv i c x (List.getElem?_eq_some_iff.mp hc).1 hc hx
          rw [e]
          fail "mini x_law_is_row"
          exact .refl
      · rw [show decide ((xs.length : Int) = ((cs.map colD).length : Int)) = false from decide_eq_false (by rw [List.length_map]; omega)]
        have e : isRow cs (.tup xs) = false := by
          cases k : rowB cs xs with
          | false => exact k
          | true => exact absurd (rowB_len k) hl
        rw [e]
        fail "mini x_law_is_row"
        exact .refl
    all_goals first
      | exact Bool.noConfusion o.1
      | (fail "mini x_law_is_row"; exact .refl)
/-! the first fault -/
noncomputable def tfR (cs : List Col) (v r : D) : Prop := (∃ vs, v = .tup [colsD cs, .tup vs] ∧ r = optD (faultAt cs 0 vs)) ∨ ((¬ ∃ vs, v = .tup [colsD cs, .tup vs]) ∧ r = .int 0)
def P_law_fault : List D → D → Prop := fun ds r => ∃ (cs : List Col) (v : D), ds = [colsD cs, v] ∧ tfR cs v r
noncomputable def G_law_fault : Gam := gamL [(n_law_is_row, d_law_is_row)] []
theorem cg_law_fault_law_is_row {ds : List D} {h : Hm} : callG G_law_fault n_law_is_row ds h = d_law_is_row ds h := rfl
theorem N_law_fault : c_law_fault.N = (["columns", "value", "wrong", "k"] : List Str) := rfl
noncomputable def d_law_fault : List D → Hm → Res D := denT G_law_fault c_law_fault.N 2 b_law_fault (TR P_law_fault)
theorem sp_law_fault {ds : List D} {h : Hm} (hl : ds.length = 2) (w : wpB G_law_fault b_law_fault (startD c_law_fault.N ds) h (PoT (TR P_law_fault) ds h)) : ∃ r h2, d_law_fault ds h = .ok r h2 ∧ (TR P_law_fault) ds h r h2 := denT_ok hl w
theorem ub_law_fault_4 {Γ : Gam} {σ : Sg} {h : Hm} {P : Po} : wpB Γ b_law_fault_4 σ h P = wpB Γ (.cons (.ret (.int 0)) .nil) σ h P := rfl
theorem ub_law_fault_3 {Γ : Gam} {σ : Sg} {h : Hm} {P : Po} : wpB Γ b_law_fault_3 σ h P = wpB Γ (.cons (.ret (.ifx (.cmp .ne (.v 2) (.lst .nil)) (.ix (.v 2) (.int 0)) .non)) .nil) σ h P := rfl
theorem ub_law_fault_2 {Γ : Gam} {σ : Sg} {h : Hm} {P : Po} : wpB Γ b_law_fault_2 σ h P = wpB Γ (.cons (.set 2 (.comp false [("k", 3)] (.v 3) (.rng1 (.bi .len (.cons (.ix (.v 1) (.int 1)) .nil))) (.cons (.bor (.cmp .eq (.v 3) (.int 40)) (.bnot (.call n_law_is_row (.cons (.v 0) (.cons (.ix (.ix (.v 1) (.int 1)) (.v 3)) .nil))))) .nil) (.v 3))) b_law_fault_3) σ h P := rfl
theorem ub_law_fault {Γ : Gam} {σ : Sg} {h : Hm} {P : Po} : wpB Γ b_law_fault σ h P = wpB Γ (.cons (.ife (.bor (.bnot (.isi (.v 1) .tuple)) (.bor (.cmp .ne (.bi .len (.cons (.v 1) .nil)) (.int 2)) (.bor (.cmp .ne (.ix (.v 1) (.int 0)) (.v 0)) (.bnot (.isi (.ix (.v 1) (.int 1)) .tuple))))) b_law_fault_4 .nil) b_law_fault_2) σ h P := rfl
local macro_rules | `(tactic| fail "mini u_law_fault") => `(tactic| simp only [N_law_fault, cg_law_fault_law_is_row, e_law_is_row, opn_tup, opn_lst, opn_int, opn_str, opn_bl, opn_non, eq_self, ub_law_fault_4, ub_law_fault_3, ub_law_fault_2, ub_law_fault])
local macro_rules | `(tactic| fail "mini x_law_fault") => `(tactic| repeat (first | fail "mini fw" | fail "mini u_law_fault" | fail "mini fxx"))
theorem lf_uniq {ds : List D} {r r' : D} (a : P_law_fault ds r) (b : P_law_fault ds r') : r = r' := by
  obtain ⟨cs, v, rfl, a⟩ := a
  obtain ⟨cs', v', e, b⟩ := b
  obtain ⟨e1, rfl⟩ := in2 e
  have e1 := colsD_inj e1
  subst e1
  rcases a with ⟨vs, e1, rfl⟩ | ⟨n1, rfl⟩ <;> rcases b with ⟨vs', e2, rfl⟩ | ⟨n2, rfl⟩
  · rw [e1] at e2
    injection e2 with e2
    have e2 := (in2 e2).2
    injection e2 with e2
    rw [e2]
  · exact absurd ⟨vs, e1⟩ n2
  · exact absurd ⟨vs', e2⟩ n1
  · rfl
def pF (cs : List Col) (vs : List D) (j : Nat) : Bool := decide (j = 40) || !isRow cs (vs.getD j .non)
theorem fault_range {cs : List Col} {vs : List D} : ∀ (k i : Nat), i + k = vs.length → faultAt cs i (vs.drop i) = ((List.range' i k).filter (pF cs vs)).head?
  | 0, i, e => by
    rw [show vs.drop i = [] from List.drop_of_length_le (by omega)]
    rfl
  | k + 1, i, e => by
    have hi : i < vs.length := by omega
    rw [faultAt_drop hi, List.range'_succ, List.filter_cons]
    have ep : pF cs vs i = (decide (i = 40) || !isRow cs vs[i]) := by
      unfold pF
      rw [List.getD_eq_getElem?_getD, List.getElem?_eq_getElem hi]
      rfl
    rw [ep]
    cases (decide (i = 40) || !isRow cs vs[i]) with
    | true => rfl
    | false =>
      simp only [Bool.false_eq_true, if_false]
      exact fault_range k (i + 1) (by omega)
theorem fault_range0 {cs : List Col} {vs : List D} : faultAt cs 0 vs = ((List.range vs.length).filter (pF cs vs)).head? := by
  have := fault_range (cs := cs) (vs := vs) vs.length 0 (by omega)
  rw [List.drop_zero] at this
  rw [this, List.range_eq_range']
theorem plain_cols12 {cs : List Col} (o : ColsOk cs) : plainD 4 (colsD cs) = true := plain_tup (by rw [List.length_map]; have := o.four; omega) (List.all_eq_true.mpr fun v hv => by
  obtain ⟨c, hc, rfl⟩ := List.mem_map.mp hv
  exact plain_col (o.kd c hc) (o.nm c hc))
theorem filterMap_if12 {α : Type} {f : α → D} {p : α → Bool} : ∀ xs : List α, xs.filterMap (fun x => if p x then some (f x) else none) = (xs.filter p).map f
  | [] => rfl
  | x :: xs => by
    cases e : p x
    · rw [List.filterMap_cons_none (by rw [e]; rfl), List.filter_cons_of_neg (by rw [e]; exact Bool.false_ne_true), filterMap_if12 xs]
    · rw [List.filterMap_cons_some (b := f x) (by rw [e]; rfl), List.filter_cons_of_pos e, filterMap_if12 xs]
      rfl
theorem e_law_faultG {cs : List Col} {vs : List D} {h : Hm} (oc : ColsOk cs) (l : vs.length ≤ 900) (ov : ∀ v ∈ vs, opn1 v = true) : d_law_fault [colsD cs, .tup [colsD cs, .tup vs]] h = .ok (optD (faultAt cs 0 vs)) h := by
  have p : P_law_fault [colsD cs, .tup [colsD cs, .tup vs]] (optD (faultAt cs 0 vs)) := ⟨cs, _, rfl, .inl ⟨vs, rfl, rfl⟩⟩
  refine den_TR rfl (fun v' q => lf_uniq q p) p ?_
  fail "mini x_law_fault"
  rw [eq_refl (k := 4) (by decide) (plain_cols12 oc)]
  fail "mini x_law_fault"
  rw [show smallI (vs.length : Int) = true from smallI_mk (by omega) (by omega), Int.toNat_natCast, rngD_map0]
  fail "mini x_law_fault"
  rw [compR_encF (List.range vs.length) (fun i : Nat => D.int i) (fun k => if pF cs vs k then some (D.int k) else none) (fun j hj t => ⟨_, rfl, ?_⟩) (by rw [List.length_range]; omega) (fun x _ y e => by
    split at e
    · cases e; rfl
    · cases e), filterMap_if12]
  · have fl : ((List.range vs.length).filter (pF cs vs)).length ≤ vs.length := Nat.le_trans (List.length_filter_le _ _) (Nat.le_of_eq List.length_range)
    rw [fault_range0]
    generalize ((List.range vs.length).filter (pF cs vs)) = fs at fl
    fail "mini x_law_fault"
    rw [eq_nilL (k := 0) (by decide) (plain_lst (by rw [List.length_map]; omega) (List.all_eq_true.mpr fun v hv => by
      obtain ⟨k, _, rfl⟩ := List.mem_map.mp hv
      rfl))]
    fail "mini x_law_fault"
    cases fs with
    | nil =>
      simp only [List.map_nil, List.isEmpty_nil, Bool.not_true]
      fail "mini x_law_fault"
      exact .refl
    | cons f fs =>
      simp only [List.map_cons, List.isEmpty_cons, Bool.not_false]
      fail "mini x_law_fault"
      exact .refl
  · have hj : j < vs.length := List.mem_range.mp hj
    have ep : pF cs vs j = (decide (j = 40) || !isRow cs vs[j]) := by
      unfold pF
      rw [List.getD_eq_getElem?_getD, List.getElem?_eq_getElem hj]
      rfl
    rw [ep]
    cases h40 : decide (j = 40) with
    | true =>
      simp only [Bool.true_or, if_true]
      fail "mini x_law_fault"
      rw [show decide (((j : Nat) : Int) = 40) = true from decide_eq_true (by have := of_decide_eq_true h40; omega)]
      fail "mini x_law_fault"
      exact ⟨trivial, trivial⟩
    | false =>
      have n40 : decide (((j : Nat) : Int) = 40) = false := decide_eq_false (by have := of_decide_eq_false h40; omega)
      have er := e_law_is_row (cs := cs) (v := vs[j]) (h := h ++ [t]) (by have := oc.four; omega) (ov _ (List.getElem_mem hj))
      simp only [Bool.false_or]
      cases hr : isRow cs vs[j] with
      | true =>
        simp only [Bool.not_true, Bool.false_eq_true, if_false]
        fail "mini x_law_fault"
        rw [n40]
        fail "mini x_law_fault"
        rw [atI_nat hj, List.getElem?_eq_getElem hj]
        fail "mini x_law_fault"
        rw [er, hr]
        fail "mini x_law_fault"
      | false =>
        simp only [Bool.not_false, if_true]
        fail "mini x_law_fault"
        rw [n40]
        fail "mini x_law_fault"
        rw [atI_nat hj, List.getElem?_eq_getElem hj]
        fail "mini x_law_fault"
        rw [er, hr]
        fail "mini x_law_fault"
        exact ⟨trivial, trivial⟩

/-! values that are no tables -/
inductive Bad (cs : List Col) : D → Prop
  | non : Bad cs .non
  | lst (ys : List D) : Bad cs (.lst ys)
  | few (xs : List D) : xs.length ≠ 2 → Bad cs (.tup xs)
  | two (ys : List D) : Bad cs (.tup [colsD cs, .lst ys])
  | odd (a b : D) : (∀ h, eqD a (colsD cs) h = .ok false h) → a ≠ colsD cs → Bad cs (.tup [a, b])
theorem bad_no {cs : List Col} {v : D} (b : Bad cs v) : ¬ ∃ vs, v = .tup [colsD cs, .tup vs] := by
  rintro ⟨vs, e⟩
  cases b with
  | non => cases e
  | lst ys => cases e
  | few xs hl =>
    injection e with e
    rw [e] at hl
    exact hl rfl
  | two ys =>
    injection e with e
    have := (in2 e).2
    cases this
  | odd a b ne n =>
    injection e with e
    exact n (in2 e).1
theorem e_law_faultN {cs : List Col} {v : D} {h : Hm} (oc : ColsOk cs) (b : Bad cs v) : d_law_fault [colsD cs, v] h = .ok (.int 0) h := by
  have p : P_law_fault [colsD cs, v] (.int 0) := ⟨cs, v, rfl, .inr ⟨bad_no b, rfl⟩⟩
  refine den_TR rfl (fun v' q => lf_uniq q p) p ?_
  cases b with
  | non => fail "mini x_law_fault"; exact .refl
  | lst ys => fail "mini x_law_fault"; exact .refl
  | few xs hl =>
    fail "mini x_law_fault"
    rw [decide_eq_false (show ¬ (xs.length : Int) = 2 by omega)]
    fail "mini x_law_fault"
    exact .refl
  | two ys =>
    fail "mini x_law_fault"
    rw [eq_refl (k := 4) (by decide) (plain_cols12 oc)]
    fail "mini x_law_fault"
    exact .refl
  | odd a b ne n =>
    fail "mini x_law_fault"
    rw [ne]
    fail "mini x_law_fault"
    exact .refl
/-! a row bent -/
def Wv (r : D) : Prop := gvD 40 400 4 r = true ∧ wtD r ≤ 3000
theorem val_gv {k : Kd} {v : D} (ok : KdOk k) (h : isVal k v = true) : gvD 8 12 0 v = true ∧ wtD v ≤ 82 := by
  cases k <;> cases v <;> first | exact Bool.noConfusion h | skip
  · rename_i lo hi i
    have h : (decide (lo ≤ i) && decide (i ≤ hi)) = true := h
    rw [Bool.and_eq_true, decide_eq_true_eq, decide_eq_true_eq] at h
    obtain ⟨o1, o2, o3, o4, o5, o6⟩ := ok
    have l : i.natAbs.log2 < 12 := log_small (show i.natAbs < 2 ^ 12 by omega) (by decide)
    exact ⟨by rw [gv_int]; exact decide_eq_true l, by show i.natAbs.log2 + 3 ≤ 82; omega⟩
  · rename_i ws x
    have w := ok.2.2.1 x (of_decide_eq_true h)
    have l := word_len w
    exact ⟨by rw [gv_str, word_ok w, decide_eq_true l.2]; rfl, by show 10 * x.length + 2 ≤ 82; omega⟩
theorem row_gv {cs : List Col} {xs : List D} (oc : ColsOk cs) (h : rowB cs xs = true) : (∀ v ∈ xs, gvD 8 12 0 v = true ∧ wtD v ≤ 82) ∧ xs.length ≤ 4 := by
  refine ⟨fun v hv => ?_, by rw [rowB_len h]; exact oc.four⟩
  obtain ⟨i, hi⟩ := List.mem_iff_getElem?.mp hv
  have hl := rowB_len h
  have hlt := (List.getElem?_eq_some_iff.mp hi).1
  obtain ⟨c, hc⟩ : ∃ c, cs[i]? = some c := ⟨_, List.getElem?_eq_getElem (by omega)⟩
  exact val_gv (oc.kd c (List.mem_of_getElem? hc)) ((row_all hl).mp h i c v hc hi)
def T_wrong : Tell := fun ds h r h' => ∀ (b : Br) (cs : List Col) (xs : List D) (t : Hm), ds = [.ref 1, colsD cs, .tup xs] → h = hb b t → b.ok → ColsOk cs → rowB cs xs = true → ∃ b' : Br, h' = hb b' t ∧ b'.ok ∧ Wv r
noncomputable def G_law_wrong_row : Gam := gamL [(n_law_dab, d_law_dab), (n_law_pick, d_law_pick), (n_law_bent, (d_law_bent 2))] []
theorem cg_law_wrong_row_law_dab {ds : List D} {h : Hm} : callG G_law_wrong_row n_law_dab ds h = d_law_dab ds h := rfl
theorem cg_law_wrong_row_law_pick {ds : List D} {h : Hm} : callG G_law_wrong_row n_law_pick ds h = d_law_pick ds h := rfl
theorem cg_law_wrong_row_law_bent {ds : List D} {h : Hm} : callG G_law_wrong_row n_law_bent ds h = (d_law_bent 2) ds h := rfl
theorem N_law_wrong_row : c_law_wrong_row.N = (["brush", "columns", "row", "at", "value", "odd"] : List Str) := rfl
noncomputable def d_law_wrong_row : List D → Hm → Res D := denT G_law_wrong_row c_law_wrong_row.N 3 b_law_wrong_row T_wrong
theorem sp_law_wrong_row {ds : List D} {h : Hm} (hl : ds.length = 3) (w : wpB G_law_wrong_row b_law_wrong_row (startD c_law_wrong_row.N ds) h (PoT T_wrong ds h)) : ∃ r h2, d_law_wrong_row ds h = .ok r h2 ∧ T_wrong ds h r h2 := denT_ok hl w
theorem ub_law_wrong_row_6 {Γ : Gam} {σ : Sg} {h : Hm} {P : Po} : wpB Γ b_law_wrong_row_6 σ h P = wpB Γ (.cons (.set 5 (.op2 .add (.v 5) (.lst (.cons (.op2 .sub (.ix (.ix (.ix (.v 1) (.v 3)) (.int 1)) (.int 1)) (.int 1)) (.cons (.op2 .add (.ix (.ix (.ix (.v 1) (.v 3)) (.int 1)) (.int 2)) (.int 1)) (.cons (.bi .str (.cons (.v 4) .nil)) .nil)))))) .nil) σ h P := rfl
theorem ub_law_wrong_row_5 {Γ : Gam} {σ : Sg} {h : Hm} {P : Po} : wpB Γ b_law_wrong_row_5 σ h P = wpB Γ (.cons (.ret (.call n_law_pick (.cons (.v 0) (.cons (.lst (.cons (.op2 .add (.op2 .add (.slice (.v 2) .none (.some (.v 3))) (.tup (.cons (.call n_law_pick (.cons (.v 0) (.cons (.v 5) .nil))) .nil))) (.slice (.v 2) (.some (.op2 .add (.v 3) (.int 1))) .none)) (.cons (.op2 .add (.slice (.v 2) .none (.some (.v 3))) (.slice (.v 2) (.some (.op2 .add (.v 3) (.int 1))) .none)) (.cons (.op2 .add (.v 2) (.tup (.cons (.v 4) .nil))) (.cons (.bi .list (.cons (.v 2) .nil)) (.cons .non (.cons (.rev (.v 2)) (.cons (.call n_law_bent (.cons (.v 0) (.cons (.v 2) .nil))) .nil)))))))) .nil)))) .nil) σ h P := rfl
theorem ub_law_wrong_row_4 {Γ : Gam} {σ : Sg} {h : Hm} {P : Po} : wpB Γ b_law_wrong_row_4 σ h P = wpB Γ (.cons (.ife (.isi (.v 4) .int) b_law_wrong_row_6 .nil) b_law_wrong_row_5) σ h P := rfl
theorem ub_law_wrong_row_3 {Γ : Gam} {σ : Sg} {h : Hm} {P : Po} : wpB Γ b_law_wrong_row_3 σ h P = wpB Γ (.cons (.set 5 (.lst (.cons .non (.cons (.bl true) (.cons (.str "") (.cons (.str "zzzz") (.cons (.op2 .pow (.int 10) (.int 30)) (.cons (.tup (.cons (.v 4) .nil)) (.cons (.lst (.cons (.v 4) .nil)) (.cons (.int 0) .nil)))))))))) b_law_wrong_row_4) σ h P := rfl
theorem ub_law_wrong_row_2 {Γ : Gam} {σ : Sg} {h : Hm} {P : Po} : wpB Γ b_law_wrong_row_2 σ h P = wpB Γ (.cons (.set 4 (.ix (.v 2) (.v 3))) b_law_wrong_row_3) σ h P := rfl
theorem ub_law_wrong_row {Γ : Gam} {σ : Sg} {h : Hm} {P : Po} : wpB Γ b_law_wrong_row σ h P = wpB Γ (.cons (.set 3 (.call n_law_dab (.cons (.v 0) (.cons (.bi .len (.cons (.v 2) .nil)) .nil)))) b_law_wrong_row_2) σ h P := rfl
local macro_rules | `(tactic| fail "mini u_law_wrong_row") => `(tactic| simp only [N_law_wrong_row, cg_law_wrong_row_law_dab, cg_law_wrong_row_law_pick, cg_law_wrong_row_law_bent, opn_tup, opn_lst, opn_int, opn_str, opn_bl, opn_non, eq_self, ub_law_wrong_row_6, ub_law_wrong_row_5, ub_law_wrong_row_4, ub_law_wrong_row_3, ub_law_wrong_row_2, ub_law_wrong_row])
local macro_rules | `(tactic| fail "mini x_law_wrong_row") => `(tactic| repeat (first | fail "mini fw" | fail "mini u_law_wrong_row" | fail "mini fxx"))
theorem wv_tup {ys : List D} (l : ys.length ≤ 8) (h : ∀ y ∈ ys, gvD 40 400 3 y = true ∧ wtD y ≤ 200) : Wv (.tup ys) := by
  refine ⟨gv_tupM (by omega) fun y hy => (h y hy).1, ?_⟩
  have : ∀ ys : List D, (∀ y ∈ ys, wtD y ≤ 200) → wtDs ys ≤ ys.length * 202 := by
    intro ys
    induction ys with
    | nil => intro _; exact Nat.zero_le _
    | cons y ys ih =>
      intro h
      have a := h y List.mem_cons_self
      have b := ih fun z hz => h z (List.mem_cons_of_mem _ hz)
      show wtD y + 2 + wtDs ys ≤ (ys.length + 1) * 202
      rw [Nat.add_mul]
      omega
  have := this ys fun y hy => (h y hy).2
  show wtDs ys + 3 ≤ 3000
  omega
theorem wv_lst {ys : List D} (l : ys.length ≤ 8) (h : ∀ y ∈ ys, gvD 40 400 3 y = true ∧ wtD y ≤ 200) : Wv (.lst ys) := by
  have := wv_tup l h
  refine ⟨gv_lstM (by omega) fun y hy => (h y hy).1, ?_⟩
  have w := this.2
  have w : wtDs ys + 3 ≤ 3000 := w
  show wtDs ys + 2 ≤ 3000
  omega
theorem wrong_end {b : Br} {t : Hm} {cs : List Col} {xs : List D} {p : Nat} {x : D} {od : List D} {x4 : Option D} {Q : Po} (hQ : ∀ (b' : Br) (r : D), b'.ok → Wv r → Q.rt r (hb b' t)) (o : b.ok) (oc : ColsOk cs) (hr : rowB cs xs = true) (ex : xs[p]? = some x) (ox : x4 = some x)
    (on : od ≠ []) (ol : od.length ≤ 30) (og : ∀ y ∈ od, gvD 40 400 3 y = true ∧ wtD y ≤ 200) :
    wpB G_law_wrong_row b_law_wrong_row_5 [some (.ref 1), some (colsD cs), some (.tup xs), some (.int (p : Int)), x4, some (.lst od)] (hb b t) Q := by
  obtain ⟨rg, rl⟩ := row_gv oc hr
  have rg3 : ∀ v ∈ xs, gvD 40 400 3 v = true ∧ wtD v ≤ 200 := fun v hv => ⟨gv_up (by decide) (by decide) (by decide) (rg v hv).1, by have := (rg v hv).2; omega⟩
  have hp : p < xs.length := (List.getElem?_eq_some_iff.mp ex).1
  have xm := List.mem_of_getElem? ex
  subst ox
  fail "mini x_law_wrong_row"
  obtain ⟨y, b1, e1, o1, hy⟩ := s_pick (t := t) o (.inl rfl) (xs := od) on (by omega)
  rw [e1]
  fail "mini x_law_wrong_row"
  rw [cut_to, cast1, cut_from, limOk (by rw [List.length_take]; show _ + 1 ≤ _; omega)]
  fail "mini x_law_wrong_row"
  rw [limOk (by rw [List.length_append, List.length_take, List.length_drop, List.length_singleton]; omega), limOk (by rw [List.length_take, List.length_drop]; omega), limOk (by show _ + 1 ≤ _; omega)]
  fail "mini x_law_wrong_row"
  obtain ⟨r, b2, e2, o2, rr⟩ := s_bent 1 (by decide) (t := t) (v := .tup xs) (m := 8) (L := 12) o1 (by decide) (gv_tupM (by omega) fun v hv => (rg v hv).1)
  rw [e2]
  fail "mini x_law_wrong_row"
  have wr : Wv r := by
    refine ⟨gv_up (by decide) (by decide) (by decide) (rr.1 8 12 1 (by decide) (gv_tupM (by omega) fun v hv => (rg v hv).1)), ?_⟩
    have a := rr.2
    have w := (wv_tup (by omega) rg3).2
    have : wtDs xs ≤ xs.length * 202 := by
      have : ∀ ys : List D, (∀ y ∈ ys, wtD y ≤ 200) → wtDs ys ≤ ys.length * 202 := by
        intro ys
        induction ys with
        | nil => intro _; exact Nat.zero_le _
        | cons y ys ih =>
          intro h
          have a := h y List.mem_cons_self
          have b := ih fun z hz => h z (List.mem_cons_of_mem _ hz)
          show wtD y + 2 + wtDs ys ≤ (ys.length + 1) * 202
          rw [Nat.add_mul]
          omega
      exact this xs fun v hv => (rg3 v hv).2
    have a : wtD r ≤ 2 * (wtDs xs + 3) + 500 := a
    have : xs.length * 202 ≤ 4 * 202 := Nat.mul_le_mul_right _ rl
    omega
  have m1 : ∀ z ∈ xs.take p ++ [y] ++ xs.drop (p + 1), gvD 40 400 3 z = true ∧ wtD z ≤ 200 := fun z hz => by
    rcases List.mem_append.mp hz with h | h
    · rcases List.mem_append.mp h with h | h
      · exact rg3 z (List.mem_of_mem_take h)
      · rw [List.mem_singleton.mp h]; exact og y hy
    · exact rg3 z (List.mem_of_mem_drop h)
  have m2 : ∀ z ∈ xs.take p ++ xs.drop (p + 1), gvD 40 400 3 z = true ∧ wtD z ≤ 200 := fun z hz => by
    rcases List.mem_append.mp hz with h | h
    · exact rg3 z (List.mem_of_mem_take h)
    · exact rg3 z (List.mem_of_mem_drop h)
  have m3 : ∀ z ∈ xs ++ [x], gvD 40 400 3 z = true ∧ wtD z ≤ 200 := fun z hz => by
    rcases List.mem_append.mp hz with h | h
    · exact rg3 z h
    · rw [List.mem_singleton.mp h]; exact rg3 x xm
  obtain ⟨z, b3, e3, o3, hz⟩ := s_pick (t := t) o2 (.inl rfl) (xs := [.tup (xs.take p ++ [y] ++ xs.drop (p + 1)), .tup (xs.take p ++ xs.drop (p + 1)), .tup (xs ++ [x]), .lst xs, .non, .tup xs.reverse, r]) (by intro z; cases z) (by simp)
  rw [e3]
  refine hQ b3 z o3 ?_
  have hz : z = .tup (xs.take p ++ [y] ++ xs.drop (p + 1)) ∨ z = .tup (xs.take p ++ xs.drop (p + 1)) ∨ z = .tup (xs ++ [x]) ∨ z = .lst xs ∨ z = .non ∨ z = .tup xs.reverse ∨ z = r := by simpa using hz
  rcases hz with rfl | rfl | rfl | rfl | rfl | rfl | rfl
  · exact wv_tup (by rw [List.length_append, List.length_append, List.length_take, List.length_drop, List.length_singleton]; omega) m1
  · exact wv_tup (by rw [List.length_append, List.length_take, List.length_drop]; omega) m2
  · exact wv_tup (by rw [List.length_append, List.length_singleton]; omega) m3
  · exact wv_lst (by omega) rg3
  · exact ⟨rfl, by decide⟩
  · exact wv_tup (by rw [List.length_reverse]; omega) fun v hv => rg3 v (List.mem_reverse.mp hv)
  · exact wr
def wrC : List D := [.non, .bl true, .str "", .str "zzzz", .int 1000000000000000000000000000000, .int 0]
theorem wrC_ok : (wrC.all fun d => gvD 40 400 3 d && decide (wtD d ≤ 200)) = true := by decide +kernel
theorem ix_at12 {xs : List D} {k : Nat} {d : D} {h : Hm} (e : xs[k]? = some d) : ixD (.tup xs) (.int k) h = .ok d h := by
  rw [ix_tup]
  have hk : k < xs.length := (List.getElem?_eq_some_iff.mp e).1
  rw [atI_nat hk, e]
theorem ix_cols {cs : List Col} {p : Nat} {c : Col} {h : Hm} (hc : cs[p]? = some c) : ixD (colsD cs) (.int (p : Int)) h = .ok (colD c) h := by
  unfold colsD
  exact ix_at12 (by rw [List.getElem?_map, hc]; rfl)
theorem s_wrong {b : Br} {cs : List Col} {xs : List D} {t : Hm} (o : b.ok) (oc : ColsOk cs) (hr : rowB cs xs = true) : ∃ (r : D) (b' : Br), d_law_wrong_row [.ref 1, colsD cs, .tup xs] (hb b t) = .ok r (hb b' t) ∧ b'.ok ∧ Wv r := by
  obtain ⟨rg, rl⟩ := row_gv oc hr
  have len := rowB_len hr
  have one := oc.one
  have w : wpB G_law_wrong_row b_law_wrong_row (startD c_law_wrong_row.N [.ref 1, colsD cs, .tup xs]) (hb b t) (PoT T_wrong [.ref 1, colsD cs, .tup xs] (hb b t)) := by
    have fin : ∀ (b' : Br) (r : D), b'.ok → Wv r → (PoT T_wrong [.ref 1, colsD cs, .tup xs] (hb b t)).rt r (hb b' t) := fun b' r o' wr => po_rt (by
      intro b2 cs2 xs2 t2 e1 e2 _ _ _
      obtain ⟨rfl, rfl⟩ := hb_inj e2
      exact ⟨b', rfl, o', wr⟩)
    fail "mini x_law_wrong_row"
    obtain ⟨p, b1, e1, o1, p1⟩ := n_dab (t := t) (xs.length : Int) o (by omega) (by omega)
    rw [e1]
    fail "mini x_law_wrong_row"
    have hp : p < xs.length := by omega
    obtain ⟨x, ex⟩ : ∃ x, xs[p]? = some x := ⟨_, List.getElem?_eq_getElem hp⟩
    have xm := List.mem_of_getElem? ex
    rw [atI_nat hp, ex]
    fail "mini x_law_wrong_row"
    rw [show powOk 10 30 = true by decide, show (10 : Int) ^ (Int.toNat 30) = 1000000000000000000000000000000 by decide]
    fail "mini x_law_wrong_row"
    have gx := rg x xm
    have g1 : ∀ y ∈ [D.non, .bl true, .str "", .str "zzzz", .int 1000000000000000000000000000000, .tup [x], .lst [x], .int 0], gvD 40 400 3 y = true ∧ wtD y ≤ 200 := by
      intro y hy
      have hy : y ∈ wrC ∨ y = .tup [x] ∨ y = .lst [x] := by
        simp only [wrC, List.mem_cons, List.not_mem_nil, or_false] at hy ⊢
        rcases hy with h | h | h | h | h | h | h | h <;> simp [h]
      rcases hy with h | rfl | rfl
      · have := List.all_eq_true.mp wrC_ok y h
        rw [Bool.and_eq_true] at this
        exact ⟨this.1, of_decide_eq_true this.2⟩
      · exact ⟨gv_tupM (by simp) fun z hz => by rw [List.mem_singleton.mp hz]; exact gv_up (by decide) (by decide) (by decide) gx.1, by show wtD x + 2 + 0 + 3 ≤ 200; omega⟩
      · exact ⟨gv_lstM (by simp) fun z hz => by rw [List.mem_singleton.mp hz]; exact gv_up (by decide) (by decide) (by decide) gx.1, by show wtD x + 2 + 0 + 2 ≤ 200; omega⟩
    obtain ⟨c, hc⟩ : ∃ c, cs[p]? = some c := ⟨_, List.getElem?_eq_getElem (by omega)⟩
    have vx : isVal c.kd x = true := (row_all len).mp hr p c x hc ex
    have g3 : (cs.map colD)[p]? = some (colD c) := by rw [List.getElem?_map, hc]; rfl
    obtain ⟨nm, kd⟩ := c
    have vx : isVal kd x = true := vx
    cases kd with
    | num lo hi =>
      obtain ⟨i, rfl, i1, i2⟩ := btw_of (show btw lo x hi = true from vx)
      obtain ⟨o1', o2', o3', o4', o5', o6'⟩ := oc.kd _ (List.mem_of_getElem? hc)
      fail "mini x_law_wrong_row"
      have li : i.natAbs.log2 < 12 := log_small (show i.natAbs < 2 ^ 12 by omega) (by decide)
      have es : biD .str [.int i] (hb b1 t) = .ok (.str (Str.ofString (toString i))) (hb b1 t) := by
        show Res.guard (decide (i.natAbs.log2 < 1920)) (.ok (D.str (Str.ofString (toString i))) (hb b1 t)) = _
        rw [decide_eq_true (show i.natAbs.log2 < 1920 by omega)]
        rfl
      rw [ix_cols hc, colD_eq, kdD_num]
      repeat (first | fail "mini fw" | fail "mini fxx")
      rw [ix_cols hc, colD_eq, kdD_num]
      repeat (first | fail "mini fw" | fail "mini fxx")
      rw [es]
      repeat (first | fail "mini fw" | fail "mini fxx")
      refine wrong_end (x := .int i) fin o1 oc hr ex rfl (by intro z; cases z) (by simp) fun y hy => ?_
      have hy : y ∈ [D.non, .bl true, .str "", .str "zzzz", .int 1000000000000000000000000000000, .tup [.int i], .lst [.int i], .int 0] ∨ y = .int (lo - 1) ∨ y = .int (hi + 1) ∨ y = .str (Str.ofString (toString i)) := by
        simp only [List.mem_cons, List.not_mem_nil, or_false] at hy ⊢
        rcases hy with h | h | h | h | h | h | h | h | h | h | h <;> simp [h]
      rcases hy with h | rfl | rfl | rfl
      · exact g1 y h
      · have l : (lo - 1).natAbs.log2 < 12 := log_small (show (lo - 1).natAbs < 2 ^ 12 by omega) (by decide)
        exact ⟨by rw [gv_int]; exact decide_eq_true (by omega), by show (lo - 1).natAbs.log2 + 3 ≤ 200; omega⟩
      · have l : (hi + 1).natAbs.log2 < 12 := log_small (show (hi + 1).natAbs < 2 ^ 12 by omega) (by decide)
        exact ⟨by rw [gv_int]; exact decide_eq_true (by omega), by show (hi + 1).natAbs.log2 + 3 ≤ 200; omega⟩
      · have l := int_len i
        exact ⟨by rw [gv_str, okS_lit, decide_eq_true (show (Str.ofString (toString i)).length ≤ 40 by omega)]; rfl, by show 10 * (Str.ofString (toString i)).length + 2 ≤ 200; omega⟩
    | wrd ws =>
      cases x <;> first | exact Bool.noConfusion vx | skip
      repeat (first | fail "mini fw" | fail "mini fxx")
      exact wrong_end fin o1 oc hr ex rfl (by intro z; cases z) (by simp) g1
  obtain ⟨r, h2, e, T⟩ := sp_law_wrong_row rfl w
  obtain ⟨b', rfl, o', wr⟩ := T b cs xs t rfl rfl o oc hr
  exact ⟨r, b', e, o', wr⟩

/-! the law (k12) -/
theorem plain_bl {k : Nat} {b : Bool} : plainD k (.bl b) = true := by cases k <;> rfl
theorem same_ok {d : D} {k : Nat} {h : Hm} (p : plainD k d = true) (hk : k ≤ 7) : d_law_same 8 [d, d] h = .ok (.bl true) h := by
  have up : ∀ m, plainD (k + m) d = true := fun m => by
    induction m with
    | zero => exact p
    | succ m ih => exact plain_mono ih
  have := up (7 - k)
  rw [show k + (7 - k) = 7 by omega] at this
  exact e_law_same 7 d (by decide) this
theorem ix_tbl {cs : List Col} {rs : List (List D)} {h : Hm} : ixD (tblD cs rs) (.int 1) h = .ok (.tup (rs.map .tup)) h := by
  rw [tblD_eq, ix_tup, at1]
local macro_rules | `(tactic| fail "mini fxx") => `(tactic| simp only [ix_tbl])
theorem min2_eq {i j : Int} {h : Hm} : biD .min2 [.int i, .int j] h = .ok (.int (if j < i then j else i)) h := rfl
theorem opn1_gv {m L k : Nat} {d : D} (h : gvD m L k d = true) : opn1 d = true := by
  unfold opn1
  rw [gv_opn h, Bool.true_and]
  cases d <;> first | rfl | exact gv_opns h
theorem opn1_row {cs : List Col} {xs : List D} (h : rowB cs xs = true) : opn1 (.tup xs) = true := opn1_tup (rowB_opn h)
def T_law : Tell := fun ds h r h' => ∀ zs : List Int, ds = [.lst (zs.map .int)] → zs.length ≤ 63 → h = [] → r = .bl true
noncomputable def G_law : Gam := gamL [(n_is_row, d_is_row), (n_table_fault, d_table_fault), (n_is_table, d_is_table), (n_law_brush, d_law_brush), (n_law_dab, d_law_dab), (n_law_same, (d_law_same 8)), (n_law_columns, d_law_columns), (n_law_row, d_law_row), (n_law_table, d_law_table), (n_law_is_row, d_law_is_row), (n_law_fault, d_law_fault), (n_law_wrong_row, d_law_wrong_row)] []
theorem cg_law_is_row {ds : List D} {h : Hm} : callG G_law n_is_row ds h = d_is_row ds h := rfl
theorem cg_law_table_fault {ds : List D} {h : Hm} : callG G_law n_table_fault ds h = d_table_fault ds h := rfl
theorem cg_law_is_table {ds : List D} {h : Hm} : callG G_law n_is_table ds h = d_is_table ds h := rfl
theorem cg_law_law_brush {ds : List D} {h : Hm} : callG G_law n_law_brush ds h = d_law_brush ds h := rfl
theorem cg_law_law_dab {ds : List D} {h : Hm} : callG G_law n_law_dab ds h = d_law_dab ds h := rfl
theorem cg_law_law_same {ds : List D} {h : Hm} : callG G_law n_law_same ds h = (d_law_same 8) ds h := rfl
theorem cg_law_law_columns {ds : List D} {h : Hm} : callG G_law n_law_columns ds h = d_law_columns ds h := rfl
theorem cg_law_law_row {ds : List D} {h : Hm} : callG G_law n_law_row ds h = d_law_row ds h := rfl
theorem cg_law_law_table {ds : List D} {h : Hm} : callG G_law n_law_table ds h = d_law_table ds h := rfl
theorem cg_law_law_is_row {ds : List D} {h : Hm} : callG G_law n_law_is_row ds h = d_law_is_row ds h := rfl
theorem cg_law_law_fault {ds : List D} {h : Hm} : callG G_law n_law_fault ds h = d_law_fault ds h := rfl
theorem cg_law_law_wrong_row {ds : List D} {h : Hm} : callG G_law n_law_wrong_row ds h = d_law_wrong_row ds h := rfl
theorem N_law : c_law.N = (["script", "brush", "turn", "columns", "k", "row", "value", "due", "table", "rows", "at", "great", "j", "spoilt", "some", "kept"] : List Str) := rfl
noncomputable def d_law : List D → Hm → Res D := denT G_law c_law.N 1 b_law T_law
theorem sp_law {ds : List D} {h : Hm} (hl : ds.length = 1) (w : wpB G_law b_law (startD c_law.N ds) h (PoT T_law ds h)) : ∃ r h2, d_law ds h = .ok r h2 ∧ T_law ds h r h2 := denT_ok hl w
theorem ub_law_18 {Γ : Gam} {σ : Sg} {h : Hm} {P : Po} : wpB Γ b_law_18 σ h P = wpB Γ (.cons (.ret (.bl false)) .nil) σ h P := rfl
theorem ub_law_17 {Γ : Gam} {σ : Sg} {h : Hm} {P : Po} : wpB Γ b_law_17 σ h P = wpB Γ (.cons (.ife (.bnot (.call n_law_same (.cons (.lst (.cons (.call n_is_row (.cons (.v 3) (.cons (.v 6) .nil))) (.cons (.callk n_is_row .nil (.cons (.v 6) (.cons (.v 3) .nil)) [1, 0]) .nil))) (.cons (.lst (.cons (.v 7) (.cons (.v 7) .nil))) .nil)))) b_law_18 .nil) .nil) σ h P := rfl
theorem ub_law_16 {Γ : Gam} {σ : Sg} {h : Hm} {P : Po} : wpB Γ b_law_16 σ h P = wpB Γ (.cons (.set 7 (.call n_law_is_row (.cons (.v 3) (.cons (.v 6) .nil)))) b_law_17) σ h P := rfl
theorem ub_law_15 {Γ : Gam} {σ : Sg} {h : Hm} {P : Po} : wpB Γ b_law_15 σ h P = wpB Γ (.cons (.for_ (.v 6) (.ex (.lst (.cons (.v 5) (.cons (.call n_law_wrong_row (.cons (.v 1) (.cons (.v 3) (.cons (.v 5) .nil)))) (.cons (.call n_law_wrong_row (.cons (.v 1) (.cons (.v 3) (.cons (.v 5) .nil)))) .nil))))) b_law_16) .nil) σ h P := rfl
theorem ub_law_14 {Γ : Gam} {σ : Sg} {h : Hm} {P : Po} : wpB Γ b_law_14 σ h P = wpB Γ (.cons (.set 5 (.call n_law_row (.cons (.v 1) (.cons (.v 3) .nil)))) b_law_15) σ h P := rfl
theorem ub_law_21 {Γ : Gam} {σ : Sg} {h : Hm} {P : Po} : wpB Γ b_law_21 σ h P = wpB Γ (.cons (.ret (.bl false)) .nil) σ h P := rfl
theorem ub_law_20 {Γ : Gam} {σ : Sg} {h : Hm} {P : Po} : wpB Γ b_law_20 σ h P = wpB Γ (.cons (.ife (.bnot (.call n_law_same (.cons (.lst (.cons (.call n_table_fault (.cons (.v 6) .nil)) (.cons (.callk n_table_fault .nil (.cons (.v 6) .nil) [0]) (.cons (.call n_is_table (.cons (.v 6) .nil)) (.cons (.callk n_is_table .nil (.cons (.v 6) .nil) [0]) .nil))))) (.cons (.lst (.cons (.v 7) (.cons (.v 7) (.cons (.isN (.v 7)) (.cons (.isN (.v 7)) .nil))))) .nil)))) b_law_21 .nil) .nil) σ h P := rfl
theorem ub_law_19 {Γ : Gam} {σ : Sg} {h : Hm} {P : Po} : wpB Γ b_law_19 σ h P = wpB Γ (.cons (.set 7 (.call n_law_fault (.cons (.v 3) (.cons (.v 6) .nil)))) b_law_20) σ h P := rfl
theorem ub_law_22 {Γ : Gam} {σ : Sg} {h : Hm} {P : Po} : wpB Γ b_law_22 σ h P = wpB Γ (.cons (.ret (.bl false)) .nil) σ h P := rfl
theorem ub_law_13 {Γ : Gam} {σ : Sg} {h : Hm} {P : Po} : wpB Γ b_law_13 σ h P = wpB Γ (.cons (.ife (.bor (.cmp .ne (.bi .repr (.cons (.v 14) .nil)) (.v 15)) (.cmp .ne (.call n_table_fault (.cons (.tup (.cons (.op2 .add (.v 3) (.slice (.v 3) .none (.some (.int 1)))) (.cons (.tup .nil) .nil))) .nil)) (.int 0))) b_law_22 .nil) .nil) σ h P := rfl
theorem ub_law_12 {Γ : Gam} {σ : Sg} {h : Hm} {P : Po} : wpB Γ b_law_12 σ h P = wpB Γ (.cons (.for_ (.v 6) (.ex (.v 14)) b_law_19) b_law_13) σ h P := rfl
theorem ub_law_11 {Γ : Gam} {σ : Sg} {h : Hm} {P : Po} : wpB Γ b_law_11 σ h P = wpB Γ (.cons (.set 15 (.bi .repr (.cons (.v 14) .nil))) b_law_12) σ h P := rfl
theorem ub_law_10 {Γ : Gam} {σ : Sg} {h : Hm} {P : Po} : wpB Γ b_law_10 σ h P = wpB Γ (.cons (.set 14 (.lst (.cons (.v 8) (.cons (.v 11) (.cons (.v 13) (.cons (.tup (.cons (.v 3) (.cons (.bi .list (.cons (.v 9) .nil)) .nil))) (.cons (.bi .list (.cons (.v 8) .nil)) (.cons (.tup (.cons (.v 3) .nil)) (.cons (.tup (.cons (.v 3) (.cons (.v 9) (.cons (.v 9) .nil)))) (.cons .non (.cons (.v 9) (.cons (.tup (.cons (.v 3) (.cons (.op2 .add (.ix (.v 11) (.int 1)) (.ix (.v 13) (.int 1))) .nil))) .nil)))))))))))) b_law_11) σ h P := rfl
theorem ub_law_9 {Γ : Gam} {σ : Sg} {h : Hm} {P : Po} : wpB Γ b_law_9 σ h P = wpB Γ (.cons (.set 13 (.tup (.cons (.v 3) (.cons (.op2 .add (.op2 .add (.slice (.v 9) .none (.some (.v 10))) (.tup (.cons (.call n_law_wrong_row (.cons (.v 1) (.cons (.v 3) (.cons (.call n_law_row (.cons (.v 1) (.cons (.v 3) .nil))) .nil)))) .nil))) (.slice (.v 9) (.some (.v 10)) .none)) .nil)))) b_law_10) σ h P := rfl
theorem ub_law_8 {Γ : Gam} {σ : Sg} {h : Hm} {P : Po} : wpB Γ b_law_8 σ h P = wpB Γ (.cons (.set 11 (.tup (.cons (.v 3) (.cons (.bi .tuple (.cons (.comp false [("j", 12)] (.v 12) (.rng1 (.op2 .add (.int 39) (.call n_law_dab (.cons (.v 1) (.cons (.int 4) .nil))))) .nil (.call n_law_row (.cons (.v 1) (.cons (.v 3) .nil)))) .nil)) .nil)))) b_law_9) σ h P := rfl
theorem ub_law_7 {Γ : Gam} {σ : Sg} {h : Hm} {P : Po} : wpB Γ b_law_7 σ h P = wpB Γ (.cons (.par 9 10 (.ix (.v 8) (.int 1)) (.call n_law_dab (.cons (.v 1) (.cons (.op2 .add (.bi .len (.cons (.ix (.v 8) (.int 1)) .nil)) (.int 1)) .nil)))) b_law_8) σ h P := rfl
theorem ub_law_6 {Γ : Gam} {σ : Sg} {h : Hm} {P : Po} : wpB Γ b_law_6 σ h P = wpB Γ (.cons (.set 8 (.call n_law_table (.cons (.v 1) (.cons (.v 3) (.cons (.ix (.lst (.cons (.int 3) (.cons (.int 12) (.cons (.int 40) .nil)))) (.call n_law_dab (.cons (.v 1) (.cons (.int 3) .nil)))) .nil))))) b_law_7) σ h P := rfl
theorem ub_law_5 {Γ : Gam} {σ : Sg} {h : Hm} {P : Po} : wpB Γ b_law_5 σ h P = wpB Γ (.cons (.for_ (.v 4) (.rng1 (.int 6)) b_law_14) b_law_6) σ h P := rfl
theorem ub_law_4 {Γ : Gam} {σ : Sg} {h : Hm} {P : Po} : wpB Γ b_law_4 σ h P = wpB Γ (.cons (.set 3 (.call n_law_columns (.cons (.v 1) (.cons (.bl false) .nil)))) b_law_5) σ h P := rfl
theorem ub_law_3 {Γ : Gam} {σ : Sg} {h : Hm} {P : Po} : wpB Γ b_law_3 σ h P = wpB Γ (.cons (.ret (.bl true)) .nil) σ h P := rfl
theorem ub_law_2 {Γ : Gam} {σ : Sg} {h : Hm} {P : Po} : wpB Γ b_law_2 σ h P = wpB Γ (.cons (.for_ (.v 2) (.rng1 (.op2 .add (.int 3) (.bi .min2 (.cons (.int 5) (.cons (.bi .len (.cons (.v 0) .nil)) .nil))))) b_law_4) b_law_3) σ h P := rfl
theorem ub_law {Γ : Gam} {σ : Sg} {h : Hm} {P : Po} : wpB Γ b_law σ h P = wpB Γ (.cons (.set 1 (.call n_law_brush (.cons (.v 0) .nil))) b_law_2) σ h P := rfl
local macro_rules | `(tactic| fail "mini u_law") => `(tactic| simp only [N_law, cg_law_is_row, cg_law_table_fault, cg_law_is_table, cg_law_law_brush, cg_law_law_dab, cg_law_law_same, cg_law_law_columns, cg_law_law_row, cg_law_law_table, cg_law_law_is_row, cg_law_law_fault, cg_law_law_wrong_row, e_is_row, e_law_same, e_law_is_row, opn_tup, opn_lst, opn_int, opn_str, opn_bl, opn_non, eq_self, ub_law_18, ub_law_17, ub_law_16, ub_law_15, ub_law_14, ub_law_21, ub_law_20, ub_law_19, ub_law_22, ub_law_13, ub_law_12, ub_law_11, ub_law_10, ub_law_9, ub_law_8, ub_law_7, ub_law_6, ub_law_5, ub_law_4, ub_law_3, ub_law_2, ub_law])
local macro_rules | `(tactic| fail "mini x_law") => `(tactic| repeat (first | fail "mini fw" | fail "mini u_law" | fail "mini fxx"))
theorem val_turn {h : Hm} {cs : List Col} {v : D} {x0 x1 x2 x4 x5 x7 x8 x9 x10 x11 x12 x13 x14 x15 : Option D} {Q : Po} (oc : ColsOk cs) (o : opn1 v = true)
    (k : ∀ x7, Q.nx [x0, x1, x2, some (colsD cs), x4, x5, some v, x7, x8, x9, x10, x11, x12, x13, x14, x15] h) :
    wpB G_law b_law_16 [x0, x1, x2, some (colsD cs), x4, x5, some v, x7, x8, x9, x10, x11, x12, x13, x14, x15] h Q := by
  fail "mini x_law"
  rw [e_law_is_row (by have := oc.four; omega) o]
  fail "mini x_law"
  rw [e_is_row oc o]
  fail "mini x_law"
  rw [e_is_row oc o]
  fail "mini x_law"
  rw [same_ok (k := 1) (plain_lst (by simp) (by simp only [List.all_cons, List.all_nil, plain_bl, Bool.and_self])) (by decide)]
  fail "mini x_law"
  exact k _
theorem turn_a {b : Br} {t : Hm} {cs : List Col} {x0 x2 x4 x5 x6 x7 x8 x9 x10 x11 x12 x13 x14 x15 : Option D} {Q : Po} (o : b.ok) (oc : ColsOk cs)
    (k : ∀ (b' : Br) x5 x6 x7, b'.ok → Q.nx [x0, some (.ref 1), x2, some (colsD cs), x4, x5, x6, x7, x8, x9, x10, x11, x12, x13, x14, x15] (hb b' t)) :
    wpB G_law b_law_14 [x0, some (.ref 1), x2, some (colsD cs), x4, x5, x6, x7, x8, x9, x10, x11, x12, x13, x14, x15] (hb b t) Q := by
  fail "mini x_law"
  obtain ⟨vs, b1, e1, o1, hr⟩ := s_row (t := t) o oc.kd (by have := oc.four; omega)
  rw [e1]
  fail "mini x_law"
  obtain ⟨r1, b2, e2, o2, w1⟩ := s_wrong (t := t) o1 oc hr
  rw [e2]
  fail "mini x_law"
  obtain ⟨r2, b3, e3, o3, w2⟩ := s_wrong (t := t) o2 oc hr
  rw [e3]
  fail "mini x_law"
  refine L_for (fun i σ h2 => h2 = hb b3 t ∧ ∃ x6 x7, σ = [x0, some (.ref 1), x2, some (colsD cs), x4, some (.tup vs), x6, x7, x8, x9, x10, x11, x12, x13, x14, x15]) ⟨rfl, _, _, rfl⟩ ?_ ?_
  · rintro i y σ h2 hi ⟨rfl, y6, y7, rfl⟩
    have hy : y = .tup vs ∨ y = r1 ∨ y = r2 := by simpa using List.mem_of_getElem? hi
    have oy : opn1 y = true := by
      rcases hy with rfl | rfl | rfl
      · exact opn1_row hr
      · exact opn1_gv w1.1
      · exact opn1_gv w2.1
    exact ⟨_, rfl, val_turn oc oy fun x7 => ⟨rfl, _, _, rfl⟩⟩
  · rintro σ h2 ⟨rfl, y6, y7, rfl⟩
    fail "mini x_law"
    exact k _ _ _ _ o3
/-- what stands among the values asked as tables -/
def Asked (cs : List Col) (v : D) : Prop := (∃ vs, v = .tup [colsD cs, .tup vs] ∧ vs.length ≤ 900 ∧ ∀ v ∈ vs, opn1 v = true) ∨ (Bad cs v ∧ okT v ∧ ¬ isT v)
theorem opt_plain {o : Option Nat} : plainD 0 (optD o) = true := by cases o <;> rfl
theorem tab_turn {h : Hm} {cs : List Col} {v : D} {x0 x1 x2 x4 x5 x7 x8 x9 x10 x11 x12 x13 x14 x15 : Option D} {Q : Po} (oc : ColsOk cs) (a : Asked cs v)
    (k : ∀ x7, Q.nx [x0, x1, x2, some (colsD cs), x4, x5, some v, x7, x8, x9, x10, x11, x12, x13, x14, x15] h) :
    wpB G_law b_law_19 [x0, x1, x2, some (colsD cs), x4, x5, some v, x7, x8, x9, x10, x11, x12, x13, x14, x15] h Q := by
  rcases a with ⟨vs, rfl, l, ov⟩ | ⟨bad, ot, nt⟩
  · fail "mini x_law"
    rw [e_law_faultG oc l ov]
    fail "mini x_law"
    rw [e_table_faultG oc ov]
    fail "mini x_law"
    rw [e_table_faultG oc ov]
    fail "mini x_law"
    rw [e_is_tableG oc ov]
    fail "mini x_law"
    rw [e_is_tableG oc ov]
    fail "mini x_law"
    rw [isNon_opt, same_ok (k := 1) (plain_lst (by simp) (by simp only [List.all_cons, List.all_nil, plain_bl, opt_plain, Bool.and_self])) (by decide)]
    fail "mini x_law"
    exact k _
  · fail "mini x_law"
    rw [e_law_faultN oc bad]
    fail "mini x_law"
    rw [e_table_faultN ot nt]
    fail "mini x_law"
    rw [e_table_faultN ot nt]
    fail "mini x_law"
    rw [e_is_tableN ot nt]
    fail "mini x_law"
    rw [e_is_tableN ot nt]
    fail "mini x_law"
    rw [same_ok (k := 1) (plain_lst (by simp) (by simp only [List.all_cons, List.all_nil, plain_bl, plain_int, Bool.and_self])) (by decide)]
    fail "mini x_law"
    exact k _
/-! the values -/
theorem okT_lst {ys : List D} : okT (.lst ys) := ⟨rfl, fun xs e => by cases e⟩
theorem okT_non : okT .non := ⟨rfl, fun xs e => by cases e⟩
theorem okT_few {xs : List D} (h : xs.length ≠ 2) : okT (.tup xs) := ⟨rfl, fun ys e l => by injection e with e; rw [← e] at l; exact absurd l h⟩
theorem okT_two {cs : List Col} {ys : List D} (oc : ColsOk cs) : okT (.tup [colsD cs, .lst ys]) := ⟨rfl, fun xs e l => by
  injection e with e
  subst e
  exact ⟨fun x e => by cases e; exact okCl_of oc, fun x e => by cases e; exact ⟨rfl, fun ys e => by cases e⟩⟩⟩
theorem isT_few {xs : List D} (h : xs.length ≠ 2) : ¬ isT (.tup xs) := fun ⟨cs, vs, e, _⟩ => by
  injection e with e
  rw [e] at h
  exact h rfl
theorem asked_lst {cs : List Col} {ys : List D} : Asked cs (.lst ys) := .inr ⟨.lst ys, okT_lst, fun ⟨cs, vs, e, _⟩ => by cases e⟩
theorem asked_non {cs : List Col} : Asked cs .non := .inr ⟨.non, okT_non, fun ⟨cs, vs, e, _⟩ => by cases e⟩
theorem asked_few {cs : List Col} {xs : List D} (h : xs.length ≠ 2) : Asked cs (.tup xs) := .inr ⟨.few xs h, okT_few h, isT_few h⟩
theorem asked_two {cs : List Col} {ys : List D} (oc : ColsOk cs) : Asked cs (.tup [colsD cs, .lst ys]) := .inr ⟨.two ys, okT_two oc, fun ⟨cs', vs, e, _⟩ => by
  injection e with e
  have := (in2 e).2
  cases this⟩
theorem row_gv1 {cs : List Col} {xs : List D} (oc : ColsOk cs) (h : rowB cs xs = true) : gvD 8 12 1 (.tup xs) = true := gv_tupM (by have := (row_gv oc h).2; omega) fun v hv => ((row_gv oc h).1 v hv).1
theorem row_no {cs cs' : List Col} {xs : List D} (oc : ColsOk cs) (h : rowB cs xs = true) (oc' : ColsOk cs') : D.tup xs ≠ colsD cs' := by
  intro e
  have g := row_gv1 oc h
  have one := oc'.one
  rw [e] at g
  cases cs' with
  | nil => exact absurd one (by decide)
  | cons c cs' =>
    have := gv_mem g (colD c) List.mem_cons_self
    exact Bool.noConfusion this
theorem row_ne {cs cs' : List Col} {xs : List D} {h : Hm} (oc : ColsOk cs) (hr : rowB cs xs = true) (oc' : ColsOk cs') : eqD (.tup xs) (colsD cs') h = .ok false h := by
  have px := gv_plain (by decide : 8 ≤ 1000) (row_gv1 oc hr)
  have pc := plain_cols12 oc'
  obtain ⟨p, a1, a2, a3, _⟩ := plain_py _ _ px
  obtain ⟨q, c1, c2, c3, _⟩ := plain_py _ _ pc
  unfold eqD
  rw [toPyH_of a1, toPyH_of c1]
  have s1 : SeqAt.shaped p = true := by
    unfold SeqAt.shaped
    rw [a2, decide_eq_true (show p.depth ≤ 64 by omega)]
    rfl
  have s2 : SeqAt.shaped q = true := by
    unfold SeqAt.shaped
    rw [c2, decide_eq_true (show q.depth ≤ 64 by omega)]
    rfl
  dsimp only
  rw [s1, s2]
  suffices e : PyData.eqv p q = false by rw [e]; rfl
  have l := rowB_len hr
  have one := oc.one
  have one' := oc'.one
  cases xs with
  | nil => simp at l; omega
  | cons x xs =>
    cases cs' with
    | nil => exact absurd one' (by decide)
    | cons c cs' =>
      have gx := (row_gv oc hr).1 x List.mem_cons_self
      have a1 : (toPys (x :: xs)).map PyData.tuple = some p := a1
      have c1 : (toPys (colD c :: cs'.map colD)).map PyData.tuple = some q := c1
      unfold toPys at a1 c1
      cases ex : toPy x with
      | none => rw [ex] at a1; cases a1
      | some px =>
        cases exs : toPys xs with
        | none => rw [ex, exs] at a1; cases a1
        | some pxs =>
          rw [ex, exs] at a1
          cases a1
          cases ec : toPy (colD c) with
          | none => rw [ec] at c1; cases c1
          | some pc =>
            cases ecs : toPys (cs'.map colD) with
            | none => rw [ec, ecs] at c1; cases c1
            | some pcs =>
              rw [ec, ecs] at c1
              cases c1
              show (PyData.eqv px pc && PyData.eqvAll pxs pcs) = false
              have ht : ∃ zs, pc = .tuple zs := by
                have ec : (toPys [.str c.nm, kdD c.kd]).map PyData.tuple = some pc := ec
                cases z : toPys [.str c.nm, kdD c.kd] with
                | none => rw [z] at ec; cases ec
                | some zs => rw [z] at ec; cases ec; exact ⟨zs, rfl⟩
              obtain ⟨zs, rfl⟩ := ht
              have : PyData.eqv px (.tuple zs) = false := by
                cases x <;> first | (cases ex; rfl) | exact Bool.noConfusion gx.1
              rw [this]
              rfl
theorem asked_rows {cs : List Col} {rs : List (List D)} (oc : ColsOk cs) (hr : ∀ r ∈ rs, rowB cs r = true) : Asked cs (.tup (rs.map .tup)) := by
  by_cases l : (rs.map D.tup).length = 2
  · match rs, hr, l with
    | [a, b], hr, _ =>
      have ha := hr a (by simp)
      have hb := hr b (by simp)
      refine .inr ⟨.odd _ _ (fun h => row_ne oc ha oc) (row_no oc ha oc), ⟨rfl, fun xs e l => ?_⟩, fun ⟨cs', vs, e, oc'⟩ => ?_⟩
      · injection e with e
        subst e
        refine ⟨fun x e => ?_, fun x e => ?_⟩
        · cases e
          exact okCl_gv (by decide) (row_gv1 oc ha)
        · cases e
          refine ⟨rfl, fun ys e y hy => ?_⟩
          injection e with e
          subst e
          exact opn1_gv ((row_gv oc hb).1 y hy).1
      · injection e with e
        exact row_no oc ha oc' (in2 e).1
  · exact asked_few l

/-! a table's text -/
theorem log_le {n k : Nat} (h : n < 2 ^ k) (k0 : 0 < k) : n.log2 ≤ k := Nat.le_of_lt (log_small h k0)
theorem wt_sum : ∀ (xs : List D) (m : Nat), (∀ x ∈ xs, wtD x ≤ m) → wtDs xs ≤ xs.length * (m + 2)
  | [], m, _ => Nat.zero_le _
  | x :: xs, m, h => by
    have h1 := h x List.mem_cons_self
    have h2 := wt_sum xs m fun y hy => h y (List.mem_cons_of_mem _ hy)
    show wtD x + 2 + wtDs xs ≤ (xs.length + 1) * (m + 2)
    rw [Nat.add_mul]
    omega
theorem log_all : ∀ (xs : List D), (∀ x ∈ xs, logD x = true) → logDs xs = true
  | [], _ => rfl
  | x :: xs, h => by
    show (logD x && logDs xs) = true
    rw [h x List.mem_cons_self, log_all xs fun y hy => h y (List.mem_cons_of_mem _ hy)]
    rfl
theorem wt_word {x : Str} (h : wordOk x = true) : wtD (.str x) ≤ 82 := by
  have := (word_len h).2
  show 10 * x.length + 2 ≤ 82
  omega
theorem wt_int {i : Int} (a : -2000 ≤ i) (b : i ≤ 2000) : wtD (.int i) ≤ 82 ∧ logD (.int i) = true := by
  have l : i.natAbs.log2 ≤ 11 := log_le (by omega) (by decide)
  exact ⟨by show i.natAbs.log2 + 3 ≤ 82; omega, decide_eq_true (by omega)⟩
theorem wt_val {k : Kd} {v : D} (o : KdOk k) (h : isVal k v = true) : wtD v ≤ 82 ∧ logD v = true := by
  cases k <;> cases v <;> first | exact Bool.noConfusion h | skip
  · rename_i lo hi i
    have h : (decide (lo ≤ i) && decide (i ≤ hi)) = true := h
    rw [Bool.and_eq_true, decide_eq_true_eq, decide_eq_true_eq] at h
    obtain ⟨o1, o2, o3, o4, o5, o6⟩ := o
    exact wt_int (by omega) (by omega)
  · exact ⟨wt_word (o.2.2.1 _ (of_decide_eq_true h)), rfl⟩
theorem row_mem : ∀ {cs : List Col} {xs : List D}, rowB cs xs = true → ∀ v ∈ xs, ∃ c ∈ cs, isVal c.kd v = true
  | [], [], _, v, hv => by cases hv
  | c :: cs, x :: xs, h, v, hv => by
    have h : (isVal c.kd x && rowB cs xs) = true := h
    rw [Bool.and_eq_true] at h
    rcases List.mem_cons.mp hv with rfl | hv
    · exact ⟨c, List.mem_cons_self, h.1⟩
    · obtain ⟨d, hd, e⟩ := row_mem h.2 v hv
      exact ⟨d, List.mem_cons_of_mem _ hd, e⟩
  | [], _ :: _, h, _, _ => by cases h
  | _ :: _, [], h, _, _ => by cases h
theorem wt_row {cs : List Col} {xs : List D} (o : ColsOk cs) (h : rowB cs xs = true) : wtD (.tup xs) ≤ 400 ∧ logD (.tup xs) = true := by
  have each : ∀ v ∈ xs, wtD v ≤ 82 ∧ logD v = true := fun v hv => by
    obtain ⟨c, hc, e⟩ := row_mem h v hv
    exact wt_val (o.kd c hc) e
  have l := rowB_len h
  have four := o.four
  refine ⟨?_, log_all xs fun v hv => (each v hv).2⟩
  have := wt_sum xs 82 fun v hv => (each v hv).1
  have m : xs.length * (82 + 2) ≤ 4 * (82 + 2) := Nat.mul_le_mul_right _ (by omega)
  show wtDs xs + 3 ≤ 400
  omega
theorem wt_col {c : Col} (o : KdOk c.kd) (n : wordOk c.nm = true) : wtD (colD c) ≤ 1000 ∧ logD (colD c) = true := by
  have hn := wt_word n
  obtain ⟨nm, kd⟩ := c
  have w1 : ∀ s : String, s.length ≤ 6 → wtD (.str (Str.ofString s)) ≤ 62 := fun s hs => by
    show 10 * (Str.ofString s).length + 2 ≤ 62
    rw [lit_len]
    omega
  cases kd with
  | num lo hi =>
    obtain ⟨o1, o2, o3, o4, o5, o6⟩ := o
    have a := wt_int (i := lo) (by omega) (by omega)
    have b := wt_int (i := hi) (by omega) (by omega)
    refine ⟨?_, ?_⟩
    · show wtD (.str nm) + 2 + (((wtD (.str (Str.ofString "number")) + 2 + (wtD (.int lo) + 2 + (wtD (.int hi) + 2 + 0))) + 3) + 2 + 0) + 3 ≤ 1000
      have := w1 "number" (by decide)
      have hn : wtD (.str nm) ≤ 82 := hn
      omega
    · show (true && ((true && (logD (.int lo) && (logD (.int hi) && true))) && true)) = true
      rw [a.2, b.2]
      rfl
  | wrd ws =>
    obtain ⟨o1, o2, o3, o4⟩ := o
    have each : ∀ v ∈ ws.map D.str, wtD v ≤ 82 := fun v hv => by
      obtain ⟨x, hx, rfl⟩ := List.mem_map.mp hv
      exact wt_word (o3 x hx)
    have s := wt_sum _ 82 each
    rw [List.length_map] at s
    have m : ws.length * (82 + 2) ≤ 6 * (82 + 2) := Nat.mul_le_mul_right _ (by omega)
    refine ⟨?_, ?_⟩
    · show wtD (.str nm) + 2 + (((wtD (.str (Str.ofString "word")) + 2 + ((wtDs (ws.map D.str) + 3) + 2 + 0)) + 3) + 2 + 0) + 3 ≤ 1000
      have := w1 "word" (by decide)
      have hn : wtD (.str nm) ≤ 82 := hn
      omega
    · show (true && ((true && (logDs (ws.map D.str) && true)) && true)) = true
      rw [log_all _ fun v hv => by
        obtain ⟨x, hx, rfl⟩ := List.mem_map.mp hv
        rfl]
      rfl
theorem wt_cols {cs : List Col} (o : ColsOk cs) : wtD (colsD cs) ≤ 5000 ∧ logD (colsD cs) = true := by
  have each : ∀ v ∈ cs.map colD, wtD v ≤ 1000 ∧ logD v = true := fun v hv => by
    obtain ⟨c, hc, rfl⟩ := List.mem_map.mp hv
    exact wt_col (o.kd c hc) (o.nm c hc)
  have four := o.four
  have s := wt_sum _ 1000 fun v hv => (each v hv).1
  rw [List.length_map] at s
  have m : cs.length * (1000 + 2) ≤ 4 * (1000 + 2) := Nat.mul_le_mul_right _ (by omega)
  exact ⟨by show wtDs (cs.map colD) + 3 ≤ 5000; omega, log_all _ fun v hv => (each v hv).2⟩
theorem wt_tbl {cs : List Col} {rs : List (List D)} (o : ColsOk cs) (l : rs.length ≤ 1000) (h : ∀ r ∈ rs, rowB cs r = true) : wtD (tblD cs rs) ≤ 500000 ∧ logD (tblD cs rs) = true := by
  have each : ∀ v ∈ rs.map D.tup, wtD v ≤ 400 ∧ logD v = true := fun v hv => by
    obtain ⟨r, hr, rfl⟩ := List.mem_map.mp hv
    exact wt_row o (h r hr)
  have c := wt_cols o
  have s := wt_sum _ 400 fun v hv => (each v hv).1
  rw [List.length_map] at s
  have m : rs.length * (400 + 2) ≤ 1000 * (400 + 2) := Nat.mul_le_mul_right _ l
  refine ⟨?_, ?_⟩
  · show wtD (colsD cs) + 2 + ((wtDs (rs.map D.tup) + 3) + 2 + 0) + 3 ≤ 500000
    omega
  · show (logD (colsD cs) && (logDs (rs.map D.tup) && true)) = true
    rw [c.2, log_all _ fun v hv => (each v hv).2]
    rfl

/-! how long they are -/
def Sm (n : Nat) (v : D) : Prop := plainD 6 v = true ∧ logD v = true ∧ wtD v ≤ n
theorem wts_le : ∀ (xs : List D) (m : Nat), (∀ x ∈ xs, wtD x ≤ m) → wtDs xs ≤ xs.length * (m + 2)
  | [], m, _ => Nat.zero_le _
  | x :: xs, m, h => by
    have h1 := h x List.mem_cons_self
    have h2 := wts_le xs m fun y hy => h y (List.mem_cons_of_mem _ hy)
    show wtD x + 2 + wtDs xs ≤ (xs.length + 1) * (m + 2)
    rw [Nat.add_mul]
    omega
theorem cols_gv {cs : List Col} (oc : ColsOk cs) : gvD 8 12 4 (colsD cs) = true := by
  have four := oc.four
  refine gv_tupM (by rw [List.length_map]; omega) fun x hx => ?_
  obtain ⟨c, hc, rfl⟩ := List.mem_map.mp hx
  have ok := oc.kd c hc
  have wn := word_len (oc.nm c hc)
  have nm : gvD 8 12 2 (.str c.nm) = true := by
    rw [gv_str, word_ok (oc.nm c hc), decide_eq_true wn.2]
    rfl
  refine gv_tupM (by simp) fun y hy => ?_
  have hy : y = .str c.nm ∨ y = kdD c.kd := by simpa using hy
  rcases hy with rfl | rfl
  · exact nm
  · cases k : c.kd with
    | num lo hi =>
      rw [k] at ok
      obtain ⟨o1, o2, o3, o4, o5, o6⟩ := ok
      have l1 : lo.natAbs.log2 < 12 := log_small (show lo.natAbs < 2 ^ 12 by omega) (by decide)
      have l2 : hi.natAbs.log2 < 12 := log_small (show hi.natAbs < 2 ^ 12 by omega) (by decide)
      refine gv_tupM (by simp) fun z hz => ?_
      have hz : z = .str (Str.ofString "number") ∨ z = .int lo ∨ z = .int hi := by simpa using hz
      rcases hz with rfl | rfl | rfl
      · exact gv_lit (by decide)
      · rw [gv_int]; exact decide_eq_true l1
      · rw [gv_int]; exact decide_eq_true l2
    | wrd ws =>
      rw [k] at ok
      obtain ⟨o1, o2, o3, o4⟩ := ok
      refine gv_tupM (by simp) fun z hz => ?_
      have hz : z = .str (Str.ofString "word") ∨ z = .tup (ws.map .str) := by simpa using hz
      rcases hz with rfl | rfl
      · exact gv_lit (by decide)
      · refine gv_tupM (by rw [List.length_map]; omega) fun w hw => ?_
        obtain ⟨x, hx, rfl⟩ := List.mem_map.mp hw
        rw [gv_str, word_ok (o3 x hx), decide_eq_true (word_len (o3 x hx)).2]
        rfl
/-- a bound for values of a bounded kind -/
theorem gv_wt {m L : Nat} (hL : L ≤ 1000) : ∀ {k : Nat} {d : D}, gvD m L k d = true → wtD d ≤ (1010 + 10 * m) * (m + 3) ^ k
  | k, .non, _ => Nat.le_trans (by show 4 ≤ 1010 + 10 * m; omega) (Nat.le_mul_of_pos_right _ (Nat.pow_pos (by omega)))
  | k, .bl _, _ => Nat.le_trans (by show 5 ≤ 1010 + 10 * m; omega) (Nat.le_mul_of_pos_right _ (Nat.pow_pos (by omega)))
  | k, .int i, h => by
    rw [gv_int] at h
    have := of_decide_eq_true h
    exact Nat.le_trans (by show i.natAbs.log2 + 3 ≤ 1010 + 10 * m; omega) (Nat.le_mul_of_pos_right _ (Nat.pow_pos (by omega)))
  | k, .str x, h => by
    rw [gv_str, Bool.and_eq_true] at h
    have := of_decide_eq_true h.2
    exact Nat.le_trans (by show 10 * x.length + 2 ≤ 1010 + 10 * m; omega) (Nat.le_mul_of_pos_right _ (Nat.pow_pos (by omega)))
  | 0, .tup xs, h => Bool.noConfusion h
  | k + 1, .tup xs, h => by
    have a := wts_le xs ((1010 + 10 * m) * (m + 3) ^ k) fun x hx => gv_wt hL (gv_mem h x hx)
    have l := gv_len h
    have e : (1010 + 10 * m) * (m + 3) ^ (k + 1) = (1010 + 10 * m) * (m + 3) ^ k * m + (1010 + 10 * m) * (m + 3) ^ k * 3 := by rw [Nat.pow_succ, ← Nat.mul_assoc, Nat.mul_add]
    have p : 1010 + 10 * m ≤ (1010 + 10 * m) * (m + 3) ^ k := Nat.le_mul_of_pos_right _ (Nat.pow_pos (by omega))
    rw [e]
    generalize (1010 + 10 * m) * (m + 3) ^ k = q at a p
    have b : xs.length * (q + 2) ≤ m * (q + 2) := Nat.mul_le_mul_right _ l
    have c : m * (q + 2) = q * m + 2 * m := by rw [Nat.mul_add, Nat.mul_comm m q, Nat.mul_comm m 2]
    show wtDs xs + 3 ≤ _
    omega
  | 0, .lst xs, h => Bool.noConfusion h
  | k + 1, .lst xs, h => by
    have a := wts_le xs ((1010 + 10 * m) * (m + 3) ^ k) fun x hx => gv_wt hL (gv_memL h x hx)
    have l := gv_lenL h
    have e : (1010 + 10 * m) * (m + 3) ^ (k + 1) = (1010 + 10 * m) * (m + 3) ^ k * m + (1010 + 10 * m) * (m + 3) ^ k * 3 := by rw [Nat.pow_succ, ← Nat.mul_assoc, Nat.mul_add]
    have p : 1010 + 10 * m ≤ (1010 + 10 * m) * (m + 3) ^ k := Nat.le_mul_of_pos_right _ (Nat.pow_pos (by omega))
    rw [e]
    generalize (1010 + 10 * m) * (m + 3) ^ k = q at a p
    have b : xs.length * (q + 2) ≤ m * (q + 2) := Nat.mul_le_mul_right _ l
    have c : m * (q + 2) = q * m + 2 * m := by rw [Nat.mul_add, Nat.mul_comm m q, Nat.mul_comm m 2]
    show wtDs xs + 2 ≤ _
    omega
  | k, .ref _, h => by cases k <;> exact Bool.noConfusion h
  | k, .wtup _, h => by cases k <;> exact Bool.noConfusion h
  | k, .dict _ _, h => by cases k <;> exact Bool.noConfusion h
  | k, .fn _ _, h => by cases k <;> exact Bool.noConfusion h
/-- what a row among others may be -/
def Rv (v : D) : Prop := gvD 100 400 4 v = true ∧ wtD v ≤ 12500
theorem rv_row {cs : List Col} {xs : List D} (oc : ColsOk cs) (h : rowB cs xs = true) : Rv (.tup xs) := by
  have g := row_gv1 oc h
  refine ⟨gv_up (by decide) (by decide) (by decide) g, ?_⟩
  have := gv_wt (by decide) g
  exact Nat.le_trans this (by decide)
theorem rv_wrong {v : D} (h : Wv v) : Rv v := ⟨gv_up (by decide) (by decide) (by decide) h.1, by have := h.2; omega⟩
theorem sm_cols {cs : List Col} (oc : ColsOk cs) : gvD 100 400 4 (colsD cs) = true ∧ wtD (colsD cs) ≤ 5000 := by
  have g := cols_gv oc
  exact ⟨gv_up (by decide) (by decide) (by decide) g, (wt_cols oc).1⟩
theorem sm_of {xs : List D} (l : xs.length ≤ 90) (h : ∀ x ∈ xs, gvD 100 400 5 x = true) (w : wtDs xs ≤ 4000000) : Sm 4100000 (.tup xs) ∧ Sm 4100000 (.lst xs) := by
  have g : gvD 100 400 6 (.tup xs) = true := gv_tupM (by omega) h
  have g2 : gvD 100 400 6 (.lst xs) = true := gv_lstM (by omega) h
  exact ⟨⟨gv_plain (by decide) g, gv_log (by decide) g, by show wtDs xs + 3 ≤ _; omega⟩, ⟨gv_plain (by decide) g2, gv_log (by decide) g2, by show wtDs xs + 2 ≤ _; omega⟩⟩
theorem rows_gv {vs : List D} (l : vs.length ≤ 90) (h : ∀ v ∈ vs, Rv v) : gvD 100 400 5 (.tup vs) = true ∧ gvD 100 400 5 (.lst vs) = true ∧ wtDs vs ≤ 1130000 := by
  refine ⟨gv_tupM (by omega) fun v hv => (h v hv).1, gv_lstM (by omega) fun v hv => (h v hv).1, ?_⟩
  have a := wts_le vs 12500 fun v hv => (h v hv).2
  have b : vs.length * (12500 + 2) ≤ 90 * (12500 + 2) := Nat.mul_le_mul_right _ l
  omega
theorem sm_tbl {cs : List Col} {vs : List D} (oc : ColsOk cs) (l : vs.length ≤ 90) (h : ∀ v ∈ vs, Rv v) : Sm 1140000 (.tup [colsD cs, .tup vs]) ∧ Sm 1140000 (.tup [colsD cs, .lst vs]) ∧ Sm 1140000 (.lst [colsD cs, .tup vs]) := by
  obtain ⟨g1, g2, w⟩ := rows_gv l h
  obtain ⟨c1, c2⟩ := sm_cols oc
  have c5 := gv_up (Nat.le_refl 100) (Nat.le_refl 400) (by decide : 4 ≤ 5) c1
  have ga : gvD 100 400 6 (.tup [colsD cs, .tup vs]) = true := gv_tupM (by simp) fun x hx => by
    have hx : x = colsD cs ∨ x = .tup vs := by simpa using hx
    rcases hx with rfl | rfl
    · exact c5
    · exact g1
  have gb : gvD 100 400 6 (.tup [colsD cs, .lst vs]) = true := gv_tupM (by simp) fun x hx => by
    have hx : x = colsD cs ∨ x = .lst vs := by simpa using hx
    rcases hx with rfl | rfl
    · exact c5
    · exact g2
  have gc : gvD 100 400 6 (.lst [colsD cs, .tup vs]) = true := gv_lstM (by simp) fun x hx => by
    have hx : x = colsD cs ∨ x = .tup vs := by simpa using hx
    rcases hx with rfl | rfl
    · exact c5
    · exact g1
  refine ⟨⟨gv_plain (by decide) ga, gv_log (by decide) ga, ?_⟩, ⟨gv_plain (by decide) gb, gv_log (by decide) gb, ?_⟩, ⟨gv_plain (by decide) gc, gv_log (by decide) gc, ?_⟩⟩
  · show wtD (colsD cs) + 2 + (wtDs vs + 3 + 2 + 0) + 3 ≤ _; omega
  · show wtD (colsD cs) + 2 + (wtDs vs + 2 + 2 + 0) + 3 ≤ _; omega
  · show wtD (colsD cs) + 2 + (wtDs vs + 3 + 2 + 0) + 2 ≤ _; omega
theorem repr_some {xs : List D} {h : Hm} (l : xs.length ≤ 20) (e : ∀ x ∈ xs, plainD 6 x = true ∧ logD x = true) (w : wtDs xs ≤ 15900000) : biD .repr [.lst xs] h = .ok (.str (shownOf (.lst xs))) h ∧ PyData.strOk (shownOf (.lst xs)) = true := by
  have p : plainD 7 (.lst xs) = true := plain_lst (by omega) (List.all_eq_true.mpr fun x hx => (e x hx).1)
  exact ⟨repr_plain (.inr rfl) (by decide) p (log_allG xs fun x hx => (e x hx).2) (by show wtDs xs + 2 ≤ _; omega), shownOf_ok p⟩

theorem all2_len {α : Type} {Q : α → D → Prop} : ∀ {xs : List α} {ys : List D}, All2 Q xs ys → ys.length = xs.length
  | [], _, h => by cases h; rfl
  | x :: xs, _, h => by
    cases h with
    | cons a b => rw [List.length_cons, List.length_cons, all2_len b]
theorem all2_mem {α : Type} {P : D → Prop} : ∀ {xs : List α} {ys : List D}, All2 (fun _ y => P y) xs ys → ∀ y ∈ ys, P y
  | [], _, h => by cases h; intro y hy; cases hy
  | x :: xs, _, h => by
    cases h with
    | cons a b =>
      intro y hy
      rcases List.mem_cons.mp hy with rfl | hy
      · exact a
      · exact all2_mem b y hy
/-- good rows, as values -/
def GRow (cs : List Col) (y : D) : Prop := ∃ vs, y = .tup vs ∧ rowB cs vs = true
theorem cut_1 {α : Type} (xs : List α) : cutL xs none (some 1) = xs.take 1 := cut_to xs 1
theorem twice_no {cs cs' : List Col} (oc : ColsOk cs) (oc' : ColsOk cs') (e : cs.map colD ++ (cs.map colD).take 1 = cs'.map colD) : False := by
  have e2 : cs ++ cs.take 1 = cs' := map_inj (f := colD) (fun _ _ => colD_inj) (by rw [List.map_append, List.map_take]; exact e)
  have one := oc.one
  cases cs with
  | nil => exact absurd one (by decide)
  | cons c r =>
    have nd := oc'.nd
    rw [← e2, List.map_append] at nd
    rw [List.nodup_append] at nd
    exact nd.2.2 c.nm (by simp) c.nm (by simp) rfl
theorem turn_c {b : Br} {t : Hm} {cs : List Col} {L : List D} {x0 x1 x2 x4 x5 x6 x7 x8 x9 x10 x11 x12 x13 x15 : Option D} {Q : Po} (oc : ColsOk cs) (lL : L.length ≤ 20) (eL : ∀ x ∈ L, plainD 6 x = true ∧ logD x = true) (wL : wtDs L ≤ 15900000) (aL : ∀ v ∈ L, Asked cs v)
    (k : ∀ x6 x7 x15, Q.nx [x0, x1, x2, some (colsD cs), x4, x5, x6, x7, x8, x9, x10, x11, x12, x13, some (.lst L), x15] (hb b t)) :
    wpB G_law b_law_11 [x0, x1, x2, some (colsD cs), x4, x5, x6, x7, x8, x9, x10, x11, x12, x13, some (.lst L), x15] (hb b t) Q := by
  have rp := repr_some (h := hb b t) lL eL wL
  fail "mini x_law"
  rw [rp.1]
  fail "mini x_law"
  refine L_for (fun i σ h2 => h2 = hb b t ∧ ∃ x6 x7, σ = [x0, x1, x2, some (colsD cs), x4, x5, x6, x7, x8, x9, x10, x11, x12, x13, some (.lst L), some (.str (shownOf (.lst L)))]) ⟨rfl, _, _, rfl⟩ ?_ ?_
  · rintro i y σ h2 hi ⟨rfl, y6, y7, rfl⟩
    exact ⟨_, rfl, tab_turn oc (aL y (List.mem_of_getElem? hi)) fun x7 => ⟨rfl, _, _, rfl⟩⟩
  · rintro σ h2 ⟨rfl, y6, y7, rfl⟩
    have ec : colsD cs = .tup (cs.map colD) := rfl
    have gc := cols_gv oc
    have four := oc.four
    have ga : gvD 10 12 4 (.tup (cs.map colD ++ (cs.map colD).take 1)) = true := gv_tupM (by rw [List.length_append, List.length_take, List.length_map]; omega) fun x hx => by
      have hx : x ∈ cs.map colD := by
        rcases List.mem_append.mp hx with h | h
        · exact h
        · exact List.mem_of_mem_take h
      exact gv_up (by decide) (by decide) (by decide) (gv_mem gc x hx)
    have ot : okT (.tup [.tup (cs.map colD ++ (cs.map colD).take 1), .tup []]) := ⟨rfl, fun xs e l => by
      injection e with e
      subst e
      exact ⟨fun x e => by cases e; exact okCl_gv (by decide) ga, fun x e => by
        cases e
        exact ⟨rfl, fun ys e y hy => by injection e with e; subst e; cases hy⟩⟩⟩
    have nt : ¬ isT (.tup [.tup (cs.map colD ++ (cs.map colD).take 1), .tup []]) := fun ⟨cs', vs, e, oc'⟩ => by
      injection e with e
      have e := (in2 e).1
      unfold colsD at e
      injection e with e
      exact twice_no oc oc' e
    fail "mini x_law"
    rw [rp.1]
    fail "mini x_law"
    rw [rp.2]
    fail "mini x_law"
    rw [ec]
    fail "mini x_law"
    rw [cut_1, limOk (by rw [List.length_take, List.length_map]; omega)]
    fail "mini x_law"
    rw [e_table_faultN ot nt]
    fail "mini x_law"
    exact k _ _ _
theorem turn_b {b : Br} {t : Hm} {cs : List Col} {x0 x2 x4 x5 x6 x7 x8 x9 x10 x11 x12 x13 x14 x15 : Option D} {Q : Po} (o : b.ok) (oc : ColsOk cs)
    (k : ∀ (b' : Br) (t' : Hm) x6 x7 x8 x9 x10 x11 x13 x14 x15, b'.ok → Q.nx [x0, some (.ref 1), x2, some (colsD cs), x4, x5, x6, x7, x8, x9, x10, x11, x12, x13, x14, x15] (hb b' t')) :
    wpB G_law b_law_6 [x0, some (.ref 1), x2, some (colsD cs), x4, x5, x6, x7, x8, x9, x10, x11, x12, x13, x14, x15] (hb b t) Q := by
  have rm : ∀ (n : Nat), (n : Int) < 3 → ∃ m : Int, atI [D.int 3, D.int 12, D.int 40] (n : Int) = some (.int m) ∧ 0 ≤ m ∧ m ≤ 40 := by
    intro n hn
    rcases (show n = 0 ∨ n = 1 ∨ n = 2 by omega) with rfl | rfl | rfl
    · exact ⟨3, at0 _ _, by decide, by decide⟩
    · exact ⟨12, at1 _ _ _, by decide, by decide⟩
    · exact ⟨40, at2 _ _ _ _, by decide, by decide⟩
  fail "mini x_law"
  obtain ⟨n1, b1, e1, o1, l1⟩ := n_dab (t := t) 3 o (by omega) (by omega)
  rw [e1]
  fail "mini x_law"
  obtain ⟨m1, em1, g1, g2⟩ := rm n1 l1
  rw [em1]
  fail "mini x_law"
  obtain ⟨rs, b2, e2, o2, lr, hr⟩ := s_table (most := m1) (t := t) o1 oc g1 (by omega)
  rw [e2]
  fail "mini x_law"
  obtain ⟨p, b3, e3, o3, p1⟩ := n_dab (t := t) (((rs.map D.tup).length : Int) + 1) o2 (by omega) (by rw [List.length_map]; omega)
  rw [e3]
  fail "mini x_law"
  obtain ⟨q, b4, e4, o4, q1⟩ := n_dab (t := t) 4 o3 (by omega) (by omega)
  rw [e4]
  fail "mini x_law"
  rw [show smallI (39 + (q : Int)) = true from smallI_mk (by omega) (by omega), show (39 + (q : Int)).toNat = 39 + q by omega, rngD_map0]
  fail "mini x_law"
  obtain ⟨b5, ys, u, e5, o5, al⟩ := compR_hb (Γ := G_law) (own := [("j", 12)]) (tg := .v 12) (elt := .call n_law_row (.cons (.v 1) (.cons (.v 3) .nil))) (σ := [x0, some (.ref 1), x2, some (colsD cs), x4, x5, x6, x7, some (tblD cs rs), some (.tup (rs.map .tup)), some (.int p), x11, x12, x13, x14, x15]) (t := t) (List.range (39 + q)) (fun i : Nat => D.int i) (fun _ y => GRow cs y) o4 (fun c hc b u ob => ⟨_, rfl, by
    obtain ⟨vs, b', e, o', hv⟩ := s_row (t := t ++ [u]) ob oc.kd (by have := oc.four; omega)
    refine ⟨b', .tup vs, ?_, o', vs, rfl, hv⟩
    fail "mini x_law"
    exact e⟩) (by rw [List.length_range]; omega)
  rw [e5]
  fail "mini x_law"
  have ly : ys.length = 39 + q := by rw [all2_len al, List.length_range]
  have my := all2_mem al
  rw [cut_to]
  obtain ⟨vs, b6, e6, o6, hv⟩ := s_row (t := t ++ u) o5 oc.kd (by have := oc.four; omega)
  rw [e6]
  fail "mini x_law"
  obtain ⟨wr, b7, e7, o7, w7⟩ := s_wrong (t := t ++ u) o6 oc hv
  rw [e7]
  fail "mini x_law"
  rw [cut_from, limOk (by rw [List.length_take, List.length_map]; show _ + 1 ≤ _; omega)]
  fail "mini x_law"
  rw [limOk (by rw [List.length_append, List.length_take, List.length_drop, List.length_map, List.length_singleton]; omega)]
  fail "mini x_law"
  rw [tblD_eq]
  fail "mini x_law"
  have lrow : (rs.map D.tup).length ≤ 40 := by rw [List.length_map]; omega
  have vrow : ∀ v ∈ rs.map D.tup, Rv v ∧ opn1 v = true := fun v hv => by
    obtain ⟨r, hm, rfl⟩ := List.mem_map.mp hv
    exact ⟨rv_row oc (hr r hm), opn1_row (hr r hm)⟩
  have vy : ∀ v ∈ ys, Rv v ∧ opn1 v = true := fun v hv => by
    obtain ⟨r, rfl, hm⟩ := my v hv
    exact ⟨rv_row oc hm, opn1_row hm⟩
  have ar := asked_rows oc hr
  obtain ⟨sp, hsp⟩ : ∃ sp, sp = (rs.map D.tup).take p ++ [wr] ++ (rs.map D.tup).drop p := ⟨_, rfl⟩
  have lsp : sp.length ≤ 41 := by rw [hsp, List.length_append, List.length_append, List.length_take, List.length_drop, List.length_singleton]; omega
  have vsp : ∀ v ∈ sp, Rv v ∧ opn1 v = true := fun v hv => by
    rw [hsp] at hv
    rcases List.mem_append.mp hv with h | h
    · rcases List.mem_append.mp h with h | h
      · exact vrow v (List.mem_of_mem_take h)
      · rw [List.mem_singleton.mp h]; exact ⟨rv_wrong w7, opn1_gv w7.1⟩
    · exact vrow v (List.mem_of_mem_drop h)
  rw [← hsp]
  generalize rs.map D.tup = rows at lrow vrow ar ⊢
  clear hsp
  rw [limOk (by omega)]
  simp only [Res.guard_true]
  rw [k_set]
  have vc : ∀ v ∈ ys ++ sp, Rv v ∧ opn1 v = true := fun v hv => by
    rcases List.mem_append.mp hv with h | h
    · exact vy v h
    · exact vsp v h
  have s1 := sm_tbl oc (show rows.length ≤ 90 by omega) fun v hv => (vrow v hv).1
  have s2 := sm_tbl oc (show ys.length ≤ 90 by omega) fun v hv => (vy v hv).1
  have s3 := sm_tbl oc (show sp.length ≤ 90 by omega) fun v hv => (vsp v hv).1
  have s4 := sm_tbl oc (show (ys ++ sp).length ≤ 90 by rw [List.length_append]; omega) fun v hv => (vc v hv).1
  obtain ⟨g1, g2, w1⟩ := rows_gv (show rows.length ≤ 90 by omega) fun v hv => (vrow v hv).1
  obtain ⟨c1, c2⟩ := sm_cols oc
  have c5 := gv_up (Nat.le_refl 100) (Nat.le_refl 400) (by decide : 4 ≤ 5) c1
  have s5 : Sm 1140000 (.tup [colsD cs]) := by
    have g : gvD 100 400 6 (.tup [colsD cs]) = true := gv_tupM (by simp) fun x hx => by rw [List.mem_singleton.mp hx]; exact c5
    exact ⟨gv_plain (by decide) g, gv_log (by decide) g, by show wtD (colsD cs) + 2 + 0 + 3 ≤ _; omega⟩
  have s6 : plainD 6 (.tup [colsD cs, .tup rows, .tup rows]) = true ∧ logD (.tup [colsD cs, .tup rows, .tup rows]) = true := by
    have g : gvD 100 400 6 (.tup [colsD cs, .tup rows, .tup rows]) = true := gv_tupM (by simp) fun x hx => by
      have hx : x = colsD cs ∨ x = .tup rows := by simpa using hx
      rcases hx with rfl | rfl
      · exact c5
      · exact g1
    exact ⟨gv_plain (by decide) g, gv_log (by decide) g⟩
  have s7 : plainD 6 (.tup rows) = true ∧ logD (.tup rows) = true := by
    have g : gvD 100 400 6 (.tup rows) = true := gv_up (Nat.le_refl _) (Nat.le_refl _) (by decide) g1
    exact ⟨gv_plain (by decide) g, gv_log (by decide) g⟩
  refine turn_c oc (by simp) (fun x hx => ?_) ?_ (fun v hv => ?_) fun z6 z7 z15 => k _ _ _ _ _ _ _ _ _ _ _ o7
  · simp only [List.mem_cons, List.not_mem_nil, or_false] at hx
    rcases hx with rfl | rfl | rfl | rfl | rfl | rfl | rfl | rfl | rfl | rfl
    · exact ⟨s1.1.1, s1.1.2.1⟩
    · exact ⟨s2.1.1, s2.1.2.1⟩
    · exact ⟨s3.1.1, s3.1.2.1⟩
    · exact ⟨s1.2.1.1, s1.2.1.2.1⟩
    · exact ⟨s1.2.2.1, s1.2.2.2.1⟩
    · exact ⟨s5.1, s5.2.1⟩
    · exact s6
    · exact ⟨rfl, rfl⟩
    · exact s7
    · exact ⟨s4.1.1, s4.1.2.1⟩
  · have a1 := s1.1.2.2
    have a2 := s2.1.2.2
    have a3 := s3.1.2.2
    have a4 := s4.1.2.2
    have a5 := s1.2.1.2.2
    have a6 := s1.2.2.2.2
    have a7 := s5.2.2
    have a8 : wtD (.tup [colsD cs, .tup rows, .tup rows]) ≤ 2300000 := by show wtD (colsD cs) + 2 + (wtDs rows + 3 + 2 + (wtDs rows + 3 + 2 + 0)) + 3 ≤ _; omega
    have a9 : wtD (.tup rows) ≤ 1140000 := by show wtDs rows + 3 ≤ _; omega
    have a0 : wtD .non ≤ 4 := by show 4 ≤ 4; omega
    simp only [wtDs]
    omega
  · simp only [List.mem_cons, List.not_mem_nil, or_false] at hv
    rcases hv with rfl | rfl | rfl | rfl | rfl | rfl | rfl | rfl | rfl | rfl
    · exact .inl ⟨_, rfl, by omega, fun v hv => (vrow v hv).2⟩
    · exact .inl ⟨_, rfl, by omega, fun v hv => (vy v hv).2⟩
    · exact .inl ⟨_, rfl, by omega, fun v hv => (vsp v hv).2⟩
    · exact asked_two oc
    · exact asked_lst
    · exact asked_few (by simp)
    · exact asked_few (by simp)
    · exact asked_non
    · exact ar
    · exact .inl ⟨_, rfl, by rw [List.length_append]; omega, fun v hv => (vc v hv).2⟩
theorem turn_1 {b : Br} {t : Hm} {Q : Po} {x0 x2 x3 x4 x5 x6 x7 x8 x9 x10 x11 x12 x13 x14 x15 : Option D} (o : b.ok)
    (hQ : ∀ (b' : Br) (t' : Hm) x3 x4 x5 x6 x7 x8 x9 x10 x11 x12 x13 x14 x15, b'.ok → Q.nx [x0, some (.ref 1), x2, x3, x4, x5, x6, x7, x8, x9, x10, x11, x12, x13, x14, x15] (hb b' t')) :
    wpB G_law b_law_4 [x0, some (.ref 1), x2, x3, x4, x5, x6, x7, x8, x9, x10, x11, x12, x13, x14, x15] (hb b t) Q := by
  fail "mini x_law"
  obtain ⟨cs, b1, e1, o1, oc⟩ := s_cols (w := false) (t := t) o
  rw [e1]
  fail "mini x_law"
  rw [show smallI 6 = true by decide]
  fail "mini x_law"
  refine L_for (fun i σ h2 => ∃ (b : Br) (x4 x5 x6 x7 : Option D), σ = [x0, some (.ref 1), x2, some (colsD cs), x4, x5, x6, x7, x8, x9, x10, x11, x12, x13, x14, x15] ∧ h2 = hb b t ∧ b.ok) ⟨b1, _, _, _, _, rfl, rfl, o1⟩ ?_ ?_
  · rintro i y σ h2 hi ⟨b, x4, x5, x6, x7, rfl, rfl, ob⟩
    exact ⟨_, rfl, turn_a ob oc fun b' x5 x6 x7 o' => ⟨b', _, _, _, _, rfl, rfl, o'⟩⟩
  · rintro σ h2 ⟨b, x4, x5, x6, x7, rfl, rfl, ob⟩
    exact turn_b ob oc fun b' t' x6 x7 x8 x9 x10 x11 x13 x14 x15 o' => hQ _ _ _ _ _ _ _ _ _ _ _ _ _ _ _ o'
theorem law_eq {zs : List Int} (hl : zs.length ≤ 63) : ∃ h', d_law [.lst (zs.map .int)] [] = .ok (.bl true) h' := by
  have w : wpB G_law b_law (startD c_law.N [.lst (zs.map .int)]) [] (PoT T_law [.lst (zs.map .int)] []) := by
    fail "mini x_law"
    obtain ⟨b, e, o⟩ := s_brush hl
    rw [e]
    fail "mini x_law"
    rw [List.length_map, min2_eq]
    obtain ⟨m, hm⟩ : ∃ m : Int, m = 3 + (if (zs.length : Int) < 5 then (zs.length : Int) else 5) := ⟨_, rfl⟩
    simp only [Res.bind_ok, op_addI]
    rw [← hm, rng1R_int, show smallI m = true from smallI_mk (by split at hm <;> omega) (by split at hm <;> omega), Res.guard_true]
    refine L_for (fun i σ h2 => ∃ (b : Br) (t : Hm) (x2 x3 x4 x5 x6 x7 x8 x9 x10 x11 x12 x13 x14 x15 : Option D), σ = [some (.lst (zs.map .int)), some (.ref 1), x2, x3, x4, x5, x6, x7, x8, x9, x10, x11, x12, x13, x14, x15] ∧ h2 = hb b t ∧ b.ok) ⟨b, [], _, _, _, _, _, _, _, _, _, _, _, _, _, _, rfl, rfl, o⟩ ?_ ?_
    · rintro i y σ h2 hi ⟨b, t, x2, x3, x4, x5, x6, x7, x8, x9, x10, x11, x12, x13, x14, x15, rfl, rfl, ob⟩
      exact ⟨_, rfl, turn_1 ob fun b' t' x3 x4 x5 x6 x7 x8 x9 x10 x11 x12 x13 x14 x15 o' => ⟨b', t', _, _, _, _, _, _, _, _, _, _, _, _, _, _, rfl, rfl, o'⟩⟩
    · rintro σ h2 ⟨b, t, x2, x3, x4, x5, x6, x7, x8, x9, x10, x11, x12, x13, x14, x15, rfl, rfl, ob⟩
      fail "mini x_law"
      exact po_rt fun _ _ _ _ => rfl
  obtain ⟨r, h2, e, T⟩ := sp_law rfl w
  exact ⟨h2, by rw [e, T zs rfl hl rfl]⟩

/-! all together -/
local macro_rules | `(tactic| fail "mini bd1") => `(tactic| exact fun _ _ _ _ _ _ us hl => match us, hl with | [_], _ => rfl)
local macro_rules | `(tactic| fail "mini bd2") => `(tactic| exact fun _ _ _ _ _ _ us hl => match us, hl with | [_, _], _ => rfl)
local macro_rules | `(tactic| fail "mini bd3") => `(tactic| exact fun _ _ _ _ _ _ us hl => match us, hl with | [_, _, _], _ => rfl)
local macro_rules | `(tactic| fail "mini kd0_1") => `(tactic| exact fun _ _ _ _ _ _ us ws hl hw => match us, ws, hl, hw with | [], [_], _, _ => rfl)
local macro_rules | `(tactic| fail "mini kd0_2") => `(tactic| exact fun _ _ _ _ _ _ us ws hl hw => match us, ws, hl, hw with | [], [_, _], _, _ => rfl)
theorem kws_nil {P : Program} {w : World} {K : PySem.W.Frag} {mg : Str → Option Value} {base : Heap} {k : Nat} {c : Ctx} : ∀ l, Kws P w K mg base k c (gamL [] []) l
  | [] => trivial
  | e :: l => ⟨(fun den hd => by cases hd), kws_nil l⟩
def IntAt (K : PySem.W.Frag) (x : Str) (i : Int) : Prop := ∃ t, PySem.W.nsIn K mainGlobals x = some (some (.int i t))
theorem int_at {K : PySem.W.Frag} {x : Str} {i : Int} {t : Tok} (a : PySem.W.nsIn K mainGlobals x = some (some (.int i t))) : IntAt K x i := ⟨t, a⟩
theorem gl_int {K : PySem.W.Frag} {mg : Str → Option Value} {h0 : Heap} {c : Ctx} {i : Int} {g : Nat} {x : Str} (hx : c.glm[g]? = some x) (X : K.In h0) (G : h0.Ns mainGlobals mg) (ha : IntAt K x i) :
    ∃ x u v, c.glm[g]? = some x ∧ mg x = some u ∧ RelV v u ∧ ∀ H ρ M, RD K H ρ M (.int i) v := by
  obtain ⟨t, ha⟩ := ha
  exact ⟨x, .int i t, .int i, hx, PySem.W.mg_of X G ha, ⟨t, rfl⟩, fun H ρ M => .int i⟩
structure Defs (K : PySem.W.Frag) : Prop where
  is_tuple_of : DefAt K "is_tuple_of" s_is_tuple_of
  is_word : DefAt K "is_word" s_is_word
  are_words : DefAt K "are_words" s_are_words
  is_between : DefAt K "is_between" s_is_between
  is_kind : DefAt K "is_kind" s_is_kind
  has_words : DefAt K "has_words" s_has_words
  values_of : DefAt K "values_of" s_values_of
  count_over : DefAt K "count_over" s_count_over
  is_columns : DefAt K "is_columns" s_is_columns
  check_columns : DefAt K "check_columns" s_check_columns
  is_value : DefAt K "is_value" s_is_value
  is_row_of : DefAt K "is_row_of" s_is_row_of
  is_row : DefAt K "is_row" s_is_row
  table_fault : DefAt K "table_fault" s_table_fault
  is_table : DefAt K "is_table" s_is_table
  law_brush : DefAt K "_law_brush" s_law_brush
  law_dab : DefAt K "_law_dab" s_law_dab
  law_same : DefAt K "_law_same" s_law_same
  law_pick : DefAt K "_law_pick" s_law_pick
  law_columns : DefAt K "_law_columns" s_law_columns
  law_values : DefAt K "_law_values" s_law_values
  law_row : DefAt K "_law_row" s_law_row
  law_table : DefAt K "_law_table" s_law_table
  law_int : DefAt K "_law_int" s_law_int
  law_is_row : DefAt K "_law_is_row" s_law_is_row
  law_fault : DefAt K "_law_fault" s_law_fault
  law_bent : DefAt K "_law_bent" s_law_bent
  law_wrong_row : DefAt K "_law_wrong_row" s_law_wrong_row
  law : DefAt K "law" s_law
structure Consts (K : PySem.W.Frag) : Prop where
  MOST_COLUMNS : IntAt K "MOST_COLUMNS" 4
  MOST_NUMBER : IntAt K "MOST_NUMBER" 1000
  MOST_SPAN : IntAt K "MOST_SPAN" 30
  MOST_WORDS : IntAt K "MOST_WORDS" 6
  MOST_OVER : IntAt K "MOST_OVER" 10000
  MOST_ROWS : IntAt K "MOST_ROWS" 40
theorem all_mk {P : Program} {w : World} {K : PySem.W.Frag} {h : Heap} {mg : Str → Option Value} {fa : Addr} (X : K.In h) (G : h.Ns mainGlobals mg) (hfa : mg "law" = some (.ref fa)) (A : Defs K) (C : Consts K) (bi : ∀ x ∈ bNames, PySem.W.nsIn K mainGlobals x = some none) :
    ∃ fd : FuncData, (∀ (s : Shared) (u : Value), BindsTo s fd ⟨[u], []⟩ [("script", u)]) ∧ ∀ base : Heap, K.In base → base.Ns mainGlobals mg → RunsAt P w K mg base callerA fa fd ["script"] (spD K 1 d_law) := by
  have B : ∀ x ∈ bNames, mg x = none := fun x hx => PySem.W.mg_none_of X G (bi x hx)
  refine law_step2 (k := 9) (c := c_law) (Γ := G_law) A.law X G hfa f_law rfl rfl (fun base => ?_) k_law (fun _ _ _ _ _ _ _ => rfl) denT_len denT_body ⟨rfl, by decide, by decide⟩
  have F_is_tuple_of : FnAt P w K mg base 1 "is_tuple_of" d_is_tuple_of := fn_step (c := c_is_tuple_of) (ps := ["length", "value"]) (Γ := G_is_tuple_of) A.is_tuple_of X G f_is_tuple_of rfl ⟨rfl, rfl⟩ (k := 0) (env_mk B trivial trivial trivial) k_is_tuple_of (by fail "mini bd2") denT_len denT_body
  have F_is_word : FnAt P w K mg base 1 "is_word" d_is_word := fn_step (c := c_is_word) (ps := ["value"]) (Γ := G_is_word) A.is_word X G f_is_word rfl ⟨rfl, rfl⟩ (k := 0) (env_mk B trivial trivial trivial) k_is_word (by fail "mini bd1") denT_len denT_body
  have F_are_words : FnAt P w K mg base 2 "are_words" d_are_words := fn_step (c := c_are_words) (ps := ["most", "value"]) (Γ := G_are_words) A.are_words X G f_are_words rfl ⟨rfl, rfl⟩ (k := 1) (env_mk B ⟨⟨_, rfl, F_is_word.mono (by omega)⟩, trivial⟩ trivial trivial) k_are_words (by fail "mini bd2") denT_len denT_body
  have F_is_between : FnAt P w K mg base 1 "is_between" d_is_between := fn_step (c := c_is_between) (ps := ["least", "value", "most"]) (Γ := G_is_between) A.is_between X G f_is_between rfl ⟨rfl, rfl⟩ (k := 0) (env_mk B trivial trivial trivial) k_is_between (by fail "mini bd3") denT_len denT_body
  have F_is_kind : FnAt P w K mg base 3 "is_kind" d_is_kind := fn_step (c := c_is_kind) (ps := ["value"]) (Γ := G_is_kind) A.is_kind X G f_is_kind rfl ⟨rfl, rfl⟩ (k := 2) (env_mk B ⟨⟨_, rfl, F_is_between.mono (by omega)⟩, ⟨_, rfl, F_is_tuple_of.mono (by omega)⟩, ⟨_, rfl, F_are_words.mono (by omega)⟩, trivial⟩ trivial ⟨gl_int rfl X G C.MOST_NUMBER, gl_int rfl X G C.MOST_SPAN, gl_int rfl X G C.MOST_WORDS, trivial⟩) k_is_kind (by fail "mini bd1") denT_len denT_body
  have F_has_words : FnAt P w K mg base 1 "has_words" d_has_words := fn_step (c := c_has_words) (ps := ["column"]) (Γ := G_has_words) A.has_words X G f_has_words rfl ⟨rfl, rfl⟩ (k := 0) (env_mk B trivial trivial trivial) k_has_words (by fail "mini bd1") denT_len denT_body
  have F_values_of : FnAt P w K mg base 2 "values_of" d_values_of := fn_step (c := c_values_of) (ps := ["column"]) (Γ := G_values_of) A.values_of X G f_values_of rfl ⟨rfl, rfl⟩ (k := 1) (env_mk B ⟨⟨_, rfl, F_has_words.mono (by omega)⟩, trivial⟩ trivial trivial) k_values_of (by fail "mini bd1") denT_len denT_body
  have F_count_over : FnAt P w K mg base 3 "count_over" d_count_over := fn_step (c := c_count_over) (ps := ["columns"]) (Γ := G_count_over) A.count_over X G f_count_over rfl ⟨rfl, rfl⟩ (k := 2) (env_mk B ⟨⟨_, rfl, F_values_of.mono (by omega)⟩, trivial⟩ trivial trivial) k_count_over (by fail "mini bd1") denT_len denT_body
  have F_is_columns : FnAt P w K mg base 4 "is_columns" d_is_columns := fn_step (c := c_is_columns) (ps := ["value"]) (Γ := G_is_columns) A.is_columns X G f_is_columns rfl ⟨rfl, rfl⟩ (k := 3) (env_mk B ⟨⟨_, rfl, F_is_tuple_of.mono (by omega)⟩, ⟨_, rfl, F_are_words.mono (by omega)⟩, ⟨_, rfl, F_is_kind.mono (by omega)⟩, ⟨_, rfl, F_count_over.mono (by omega)⟩, trivial⟩ trivial ⟨gl_int rfl X G C.MOST_COLUMNS, gl_int rfl X G C.MOST_OVER, trivial⟩) k_is_columns (by fail "mini bd1") denT_len denT_body
  have F_check_columns : FnAt P w K mg base 5 "check_columns" d_check_columns := fn_step (c := c_check_columns) (ps := ["columns"]) (Γ := G_check_columns) A.check_columns X G f_check_columns rfl ⟨rfl, rfl⟩ (k := 4) (env_mk B ⟨⟨_, rfl, F_is_columns.mono (by omega)⟩, trivial⟩ trivial trivial) k_check_columns (by fail "mini bd1") denT_len denT_body
  have F_is_value : FnAt P w K mg base 2 "is_value" d_is_value := fn_step (c := c_is_value) (ps := ["column", "value"]) (Γ := G_is_value) A.is_value X G f_is_value rfl ⟨rfl, rfl⟩ (k := 1) (env_mk B ⟨⟨_, rfl, F_is_between.mono (by omega)⟩, ⟨_, rfl, F_has_words.mono (by omega)⟩, trivial⟩ trivial trivial) k_is_value (by fail "mini bd2") denT_len denT_body
  have F_is_row_of : FnAt P w K mg base 3 "is_row_of" d_is_row_of := fn_step (c := c_is_row_of) (ps := ["columns", "value"]) (Γ := G_is_row_of) A.is_row_of X G f_is_row_of rfl ⟨rfl, rfl⟩ (k := 2) (env_mk B ⟨⟨_, rfl, F_is_tuple_of.mono (by omega)⟩, ⟨_, rfl, F_is_value.mono (by omega)⟩, trivial⟩ trivial trivial) k_is_row_of (by fail "mini bd2") denT_len denT_body
  have F_is_row : FnAt P w K mg base 6 "is_row" d_is_row := fn_step (c := c_is_row) (ps := ["columns", "value"]) (Γ := G_is_row) A.is_row X G f_is_row rfl ⟨rfl, rfl⟩ (k := 5) (env_mk B ⟨⟨_, rfl, F_check_columns.mono (by omega)⟩, ⟨_, rfl, F_is_row_of.mono (by omega)⟩, trivial⟩ trivial trivial) k_is_row (by fail "mini bd2") denT_len denT_body
  have K_is_row_0 : FnKAt P w K mg base 6 "is_row" d_is_row 0 ["value", "columns"] [1, 0] := fnk_step (c := c_is_row) (ps := ["columns", "value"]) (Γ := G_is_row) A.is_row X G f_is_row rfl ⟨rfl, rfl⟩ (k := 5) (env_mk B ⟨⟨_, rfl, F_check_columns.mono (by omega)⟩, ⟨_, rfl, F_is_row_of.mono (by omega)⟩, trivial⟩ trivial trivial) k_is_row (by fail "mini kd0_2") denT_len denT_body
  have F_table_fault : FnAt P w K mg base 5 "table_fault" d_table_fault := fn_step (c := c_table_fault) (ps := ["value"]) (Γ := G_table_fault) A.table_fault X G f_table_fault rfl ⟨rfl, rfl⟩ (k := 4) (env_mk B ⟨⟨_, rfl, F_is_tuple_of.mono (by omega)⟩, ⟨_, rfl, F_is_columns.mono (by omega)⟩, ⟨_, rfl, F_is_row_of.mono (by omega)⟩, trivial⟩ trivial ⟨gl_int rfl X G C.MOST_ROWS, trivial⟩) k_table_fault (by fail "mini bd1") denT_len denT_body
  have K_table_fault_0 : FnKAt P w K mg base 5 "table_fault" d_table_fault 0 ["value"] [0] := fnk_step (c := c_table_fault) (ps := ["value"]) (Γ := G_table_fault) A.table_fault X G f_table_fault rfl ⟨rfl, rfl⟩ (k := 4) (env_mk B ⟨⟨_, rfl, F_is_tuple_of.mono (by omega)⟩, ⟨_, rfl, F_is_columns.mono (by omega)⟩, ⟨_, rfl, F_is_row_of.mono (by omega)⟩, trivial⟩ trivial ⟨gl_int rfl X G C.MOST_ROWS, trivial⟩) k_table_fault (by fail "mini kd0_1") denT_len denT_body
  have F_is_table : FnAt P w K mg base 6 "is_table" d_is_table := fn_step (c := c_is_table) (ps := ["value"]) (Γ := G_is_table) A.is_table X G f_is_table rfl ⟨rfl, rfl⟩ (k := 5) (env_mk B ⟨⟨_, rfl, F_table_fault.mono (by omega)⟩, trivial⟩ trivial trivial) k_is_table (by fail "mini bd1") denT_len denT_body
  have K_is_table_0 : FnKAt P w K mg base 6 "is_table" d_is_table 0 ["value"] [0] := fnk_step (c := c_is_table) (ps := ["value"]) (Γ := G_is_table) A.is_table X G f_is_table rfl ⟨rfl, rfl⟩ (k := 5) (env_mk B ⟨⟨_, rfl, F_table_fault.mono (by omega)⟩, trivial⟩ trivial trivial) k_is_table (by fail "mini kd0_1") denT_len denT_body
  have F_law_brush : FnAt P w K mg base 1 "_law_brush" d_law_brush := fn_step (c := c_law_brush) (ps := ["script"]) (Γ := G_law_brush) A.law_brush X G f_law_brush rfl ⟨rfl, rfl⟩ (k := 0) (env_mk B trivial trivial trivial) k_law_brush (by fail "mini bd1") denT_len denT_body
  have F_law_dab : FnAt P w K mg base 1 "_law_dab" d_law_dab := fn_step (c := c_law_dab) (ps := ["brush", "many"]) (Γ := G_law_dab) A.law_dab X G f_law_dab rfl ⟨rfl, rfl⟩ (k := 0) (env_mk B trivial trivial trivial) k_law_dab (by fail "mini bd2") denT_len denT_body
  have R_law_same : ∀ j, FnAt P w K mg base (0 + 1 + j) "_law_same" (d_law_same j) := fun j => by
    induction j with
    | zero => exact fn_step (c := c_law_same) (ps := ["found", "due"]) (Γ := gamL [] []) A.law_same X G f_law_same rfl ⟨rfl, rfl⟩ (k := 0) (env_mk B trivial (kws_nil _) trivial) k_law_same (by fail "mini bd2") (fun _ _ _ _ e => by cases e) (fun _ _ _ _ e => by cases e)
    | succ j F => exact fn_step (c := c_law_same) (ps := ["found", "due"]) (Γ := G_law_same (d_law_same j)) A.law_same X G f_law_same rfl ⟨rfl, rfl⟩ (k := 0 + 1 + j) (env_mk B ⟨⟨_, rfl, F⟩, trivial⟩ trivial trivial) k_law_same (by fail "mini bd2") denT_len denT_body
  have F_law_pick : FnAt P w K mg base 2 "_law_pick" d_law_pick := fn_step (c := c_law_pick) (ps := ["brush", "things"]) (Γ := G_law_pick) A.law_pick X G f_law_pick rfl ⟨rfl, rfl⟩ (k := 1) (env_mk B ⟨⟨_, rfl, F_law_dab.mono (by omega)⟩, trivial⟩ trivial trivial) k_law_pick (by fail "mini bd2") denT_len denT_body
  have F_law_columns : FnAt P w K mg base 3 "_law_columns" d_law_columns := fn_step (c := c_law_columns) (ps := ["brush", "wide"]) (Γ := G_law_columns) A.law_columns X G f_law_columns rfl ⟨rfl, rfl⟩ (k := 2) (env_mk B ⟨⟨_, rfl, F_law_dab.mono (by omega)⟩, ⟨_, rfl, F_law_pick.mono (by omega)⟩, trivial⟩ trivial trivial) k_law_columns (by fail "mini bd2") denT_len denT_body
  have F_law_values : FnAt P w K mg base 1 "_law_values" d_law_values := fn_step (c := c_law_values) (ps := ["column"]) (Γ := G_law_values) A.law_values X G f_law_values rfl ⟨rfl, rfl⟩ (k := 0) (env_mk B trivial trivial trivial) k_law_values (by fail "mini bd1") denT_len denT_body
  have F_law_row : FnAt P w K mg base 3 "_law_row" d_law_row := fn_step (c := c_law_row) (ps := ["brush", "columns"]) (Γ := G_law_row) A.law_row X G f_law_row rfl ⟨rfl, rfl⟩ (k := 2) (env_mk B ⟨⟨_, rfl, F_law_pick.mono (by omega)⟩, ⟨_, rfl, F_law_values.mono (by omega)⟩, trivial⟩ trivial trivial) k_law_row (by fail "mini bd2") denT_len denT_body
  have F_law_table : FnAt P w K mg base 4 "_law_table" d_law_table := fn_step (c := c_law_table) (ps := ["brush", "columns", "most"]) (Γ := G_law_table) A.law_table X G f_law_table rfl ⟨rfl, rfl⟩ (k := 3) (env_mk B ⟨⟨_, rfl, F_law_dab.mono (by omega)⟩, ⟨_, rfl, F_law_pick.mono (by omega)⟩, ⟨_, rfl, F_law_row.mono (by omega)⟩, trivial⟩ trivial trivial) k_law_table (by fail "mini bd3") denT_len denT_body
  have F_law_int : FnAt P w K mg base 1 "_law_int" d_law_int := fn_step (c := c_law_int) (ps := ["value", "low", "high"]) (Γ := G_law_int) A.law_int X G f_law_int rfl ⟨rfl, rfl⟩ (k := 0) (env_mk B trivial trivial trivial) k_law_int (by fail "mini bd3") denT_len denT_body
  have F_law_is_row : FnAt P w K mg base 2 "_law_is_row" d_law_is_row := fn_step (c := c_law_is_row) (ps := ["columns", "value"]) (Γ := G_law_is_row) A.law_is_row X G f_law_is_row rfl ⟨rfl, rfl⟩ (k := 1) (env_mk B ⟨⟨_, rfl, F_law_int.mono (by omega)⟩, trivial⟩ trivial trivial) k_law_is_row (by fail "mini bd2") denT_len denT_body
  have F_law_fault : FnAt P w K mg base 3 "_law_fault" d_law_fault := fn_step (c := c_law_fault) (ps := ["columns", "value"]) (Γ := G_law_fault) A.law_fault X G f_law_fault rfl ⟨rfl, rfl⟩ (k := 2) (env_mk B ⟨⟨_, rfl, F_law_is_row.mono (by omega)⟩, trivial⟩ trivial trivial) k_law_fault (by fail "mini bd2") denT_len denT_body
  have R_law_bent : ∀ j, FnAt P w K mg base (2 + 1 + j) "_law_bent" (d_law_bent j) := fun j => by
    induction j with
    | zero => exact fn_step (c := c_law_bent) (ps := ["brush", "value"]) (Γ := gamL [] []) A.law_bent X G f_law_bent rfl ⟨rfl, rfl⟩ (k := 2) (env_mk B trivial (kws_nil _) trivial) k_law_bent (by fail "mini bd2") (fun _ _ _ _ e => by cases e) (fun _ _ _ _ e => by cases e)
    | succ j F => exact fn_step (c := c_law_bent) (ps := ["brush", "value"]) (Γ := G_law_bent (d_law_bent j)) A.law_bent X G f_law_bent rfl ⟨rfl, rfl⟩ (k := 2 + 1 + j) (env_mk B ⟨⟨_, rfl, F_law_dab.mono (by omega)⟩, ⟨_, rfl, F_law_pick.mono (by omega)⟩, ⟨_, rfl, F⟩, trivial⟩ trivial trivial) k_law_bent (by fail "mini bd2") denT_len denT_body
  have F_law_wrong_row : FnAt P w K mg base 6 "_law_wrong_row" d_law_wrong_row := fn_step (c := c_law_wrong_row) (ps := ["brush", "columns", "row"]) (Γ := G_law_wrong_row) A.law_wrong_row X G f_law_wrong_row rfl ⟨rfl, rfl⟩ (k := 5) (env_mk B ⟨⟨_, rfl, F_law_dab.mono (by omega)⟩, ⟨_, rfl, F_law_pick.mono (by omega)⟩, ⟨_, rfl, (R_law_bent 2).mono (by omega)⟩, trivial⟩ trivial trivial) k_law_wrong_row (by fail "mini bd3") denT_len denT_body
  exact (env_mk B ⟨⟨_, rfl, F_is_row.mono (by omega)⟩, ⟨_, rfl, F_table_fault.mono (by omega)⟩, ⟨_, rfl, F_is_table.mono (by omega)⟩, ⟨_, rfl, F_law_brush.mono (by omega)⟩, ⟨_, rfl, F_law_dab.mono (by omega)⟩, ⟨_, rfl, (R_law_same 8).mono (by omega)⟩, ⟨_, rfl, F_law_columns.mono (by omega)⟩, ⟨_, rfl, F_law_row.mono (by omega)⟩, ⟨_, rfl, F_law_table.mono (by omega)⟩, ⟨_, rfl, F_law_is_row.mono (by omega)⟩, ⟨_, rfl, F_law_fault.mono (by omega)⟩, ⟨_, rfl, F_law_wrong_row.mono (by omega)⟩, trivial⟩ ⟨fun den hd => by cases hd; exact ⟨_, rfl, K_is_row_0.mono (by omega)⟩, fun den hd => by cases hd; exact ⟨_, rfl, K_is_table_0.mono (by omega)⟩, fun den hd => by cases hd; exact ⟨_, rfl, K_table_fault_0.mono (by omega)⟩, trivial⟩ trivial)


end K12
end Mn
open PySem PySem.W PyProof.Rows
set_option maxRecDepth 100000 in
set_option maxHeartbeats 0 in
theorem PySem.Challenge.cw_drawntold_k12_rows_and_tables_judged_holds : PySem.Challenge.rw_drawntold_k12_rows_and_tables_judged.Holds := by
  w_on; o_law; k_head; (case hw => w_witness2)
  k_fill
  refine Mn.law_walk2 (l := PySem.Challenge.rw_drawntold_k12_rows_and_tables_judged) (den := Mn.K12.d_law) rfl rfl (fun w h Y => PySem.W.kIn_of Y) (fun zs hz => Mn.K12.law_eq hz) ?F
  case F =>
    intro w mg fa h KX G hmg
    refine' Mn.K12.all_mk KX G hmg ⟨?d1, ?d2, ?d3, ?d4, ?d5, ?d6, ?d7, ?d8, ?d9, ?d10, ?d11, ?d12, ?d13, ?d14, ?d15, ?d16, ?d17, ?d18, ?d19, ?d20, ?d21, ?d22, ?d23, ?d24, ?d25, ?d26, ?d27, ?d28, ?d29⟩ ⟨?g1, ?g2, ?g3, ?g4, ?g5, ?g6⟩ (Mn.bi_of ?z0 ?z1 ?z2 ?z3 ?z4 ?z5 ?z6 ?z7 ?z8 ?z9 ?z10 ?z11 ?z12 ?z13 ?z14 ?z15 ?z16 ?z17 ?z18 ?z19)
    case' d1 => refine' Mn.def_at ?a ?l ?c ?k; (case a => k_is); (case l => k_is); (case c => k_is); (case k => k_is)
    case' d2 => refine' Mn.def_at ?a ?l ?c ?k; (case a => k_is); (case l => k_is); (case c => k_is); (case k => k_is)
    case' d3 => refine' Mn.def_at ?a ?l ?c ?k; (case a => k_is); (case l => k_is); (case c => k_is); (case k => k_is)
    case' d4 => refine' Mn.def_at ?a ?l ?c ?k; (case a => k_is); (case l => k_is); (case c => k_is); (case k => k_is)
    case' d5 => refine' Mn.def_at ?a ?l ?c ?k; (case a => k_is); (case l => k_is); (case c => k_is); (case k => k_is)
    case' d6 => refine' Mn.def_at ?a ?l ?c ?k; (case a => k_is); (case l => k_is); (case c => k_is); (case k => k_is)
    case' d7 => refine' Mn.def_at ?a ?l ?c ?k; (case a => k_is); (case l => k_is); (case c => k_is); (case k => k_is)
    case' d8 => refine' Mn.def_at ?a ?l ?c ?k; (case a => k_is); (case l => k_is); (case c => k_is); (case k => k_is)
    case' d9 => refine' Mn.def_at ?a ?l ?c ?k; (case a => k_is); (case l => k_is); (case c => k_is); (case k => k_is)
    case' d10 => refine' Mn.def_at ?a ?l ?c ?k; (case a => k_is); (case l => k_is); (case c => k_is); (case k => k_is)
    case' d11 => refine' Mn.def_at ?a ?l ?c ?k; (case a => k_is); (case l => k_is); (case c => k_is); (case k => k_is)
    case' d12 => refine' Mn.def_at ?a ?l ?c ?k; (case a => k_is); (case l => k_is); (case c => k_is); (case k => k_is)
    case' d13 => refine' Mn.def_at ?a ?l ?c ?k; (case a => k_is); (case l => k_is); (case c => k_is); (case k => k_is)
    case' d14 => refine' Mn.def_at ?a ?l ?c ?k; (case a => k_is); (case l => k_is); (case c => k_is); (case k => k_is)
    case' d15 => refine' Mn.def_at ?a ?l ?c ?k; (case a => k_is); (case l => k_is); (case c => k_is); (case k => k_is)
    case' d16 => refine' Mn.def_at ?a ?l ?c ?k; (case a => k_is); (case l => k_is); (case c => k_is); (case k => k_is)
    case' d17 => refine' Mn.def_at ?a ?l ?c ?k; (case a => k_is); (case l => k_is); (case c => k_is); (case k => k_is)
    case' d18 => refine' Mn.def_at ?a ?l ?c ?k; (case a => k_is); (case l => k_is); (case c => k_is); (case k => k_is)
    case' d19 => refine' Mn.def_at ?a ?l ?c ?k; (case a => k_is); (case l => k_is); (case c => k_is); (case k => k_is)
    case' d20 => refine' Mn.def_at ?a ?l ?c ?k; (case a => k_is); (case l => k_is); (case c => k_is); (case k => k_is)
    case' d21 => refine' Mn.def_at ?a ?l ?c ?k; (case a => k_is); (case l => k_is); (case c => k_is); (case k => k_is)
    case' d22 => refine' Mn.def_at ?a ?l ?c ?k; (case a => k_is); (case l => k_is); (case c => k_is); (case k => k_is)
    case' d23 => refine' Mn.def_at ?a ?l ?c ?k; (case a => k_is); (case l => k_is); (case c => k_is); (case k => k_is)
    case' d24 => refine' Mn.def_at ?a ?l ?c ?k; (case a => k_is); (case l => k_is); (case c => k_is); (case k => k_is)
    case' d25 => refine' Mn.def_at ?a ?l ?c ?k; (case a => k_is); (case l => k_is); (case c => k_is); (case k => k_is)
    case' d26 => refine' Mn.def_at ?a ?l ?c ?k; (case a => k_is); (case l => k_is); (case c => k_is); (case k => k_is)
    case' d27 => refine' Mn.def_at ?a ?l ?c ?k; (case a => k_is); (case l => k_is); (case c => k_is); (case k => k_is)
    case' d28 => refine' Mn.def_at ?a ?l ?c ?k; (case a => k_is); (case l => k_is); (case c => k_is); (case k => k_is)
    case' d29 => refine' Mn.def_at ?a ?l ?c ?k; (case a => k_is); (case l => k_is); (case c => k_is); (case k => k_is)
    case' g1 => refine' Mn.K12.int_at ?a; (case a => k_is)
    case' g2 => refine' Mn.K12.int_at ?a; (case a => k_is)
    case' g3 => refine' Mn.K12.int_at ?a; (case a => k_is)
    case' g4 => refine' Mn.K12.int_at ?a; (case a => k_is)
    case' g5 => refine' Mn.K12.int_at ?a; (case a => k_is)
    case' g6 => refine' Mn.K12.int_at ?a; (case a => k_is)
    (case z0 => k_is)
    (case z1 => k_is)
    (case z2 => k_is)
    (case z3 => k_is)
    (case z4 => k_is)
    (case z5 => k_is)
    (case z6 => k_is)
    (case z7 => k_is)
    (case z8 => k_is)
    (case z9 => k_is)
    (case z10 => k_is)
    (case z11 => k_is)
    (case z12 => k_is)
    (case z13 => k_is)
    (case z14 => k_is)
    (case z15 => k_is)
    (case z16 => k_is)
    (case z17 => k_is)
    (case z18 => k_is)
    (case z19 => k_is)
#print axioms PySem.Challenge.cw_drawntold_k12_rows_and_tables_judged_holds
