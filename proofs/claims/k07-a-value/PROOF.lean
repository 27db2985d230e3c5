import PyProof.Rows.All
import Wide.All
import OpenK.AllK
import Wide.FinOn
import HandS.ForMost
import HandS.Wide
import HandS.IsInst
import HandS.TupAny
import HandS.Deep
import HandS.Iter
import HandS.Zip
import KE.GoesMore
import KE.GoesZip
import KE.GoesEnum
import HandS.TupMul
import HandS.Records
import HandS.Rev
import HandS.TupLe
import HandS.More
import KE.KDictPairs
import HandS.Text
import HandS.Style
import PyProof.Rows.StrMeet
import HandS.RevRange
import KE.KDictZip
import KE.KDictItemsList
import HandS.ListItems
import PySem.Challenge.RW_courtwide_k07_whole_a_value_or_no_end
set_option Elab.async false
set_option linter.all false
set_option maxRecDepth 100000
set_option maxHeartbeats 4000000
/-! CwT: tuples that are made, each known as the very object that was made (one without a dict of its own). -/
namespace Cw
open PySem PySem.Spec PyProof.Rows L2

/-- a new tuple: its object is known -/
def newT (H : Hp) (xs : List V) (Q : VK) : Prop := ∀ p o, H p = none → o.dict = none → Q (.ref p) (upd H p (.frz o (.tup xs)))
section
variable {X : Cx}
theorem made_tup {pins : List (Addr × Obj)} {σ : L2.St} {H : Hp} {s : Shared} {h' : Heap} {t' : Tok} {a : Addr} {xs : List V} {its : List Value} {o : Obj} (I : Inv X pins σ H s) (k : ∀ b u, s.heap.get? b = some u → h'.get? b = some u)
    (hp : s.heap.objs.size ≤ a) (hz : xs.length ≤ sizeLine) (r : Vals xs its) (e : h'.get? a = some o) (ht : IsTup h' a its.toArray) : Inv X pins σ (upd H a (.frz o (.tup xs))) { s with heap := h', toks := t' } :=
  I.laid k hp (show ObjOk X.prog X.w (upd H a (.frz o (.tup xs))) h' a (.frz o (.tup xs)) from ⟨e, hz, its, r, ht⟩)
theorem fin_tup {pins : List (Addr × Obj)} {σ : L2.St} {H : Hp} {s : Shared} {h' : Heap} {t' : Tok} {a : Addr} {xs : List V} {its : List Value} {o : Obj} {Q : VK} (I : Inv X pins σ H s) (k : ∀ b u, s.heap.get? b = some u → h'.get? b = some u)
    (hp : s.heap.objs.size ≤ a) (hz : xs.length ≤ sizeLine) (r : Vals xs its) (e : h'.get? a = some o) (ht : IsTup h' a its.toArray) (hd : o.dict = none) (q : newT H xs Q) : EP X pins σ Q (.ref a) { s with heap := h', toks := t' } :=
  ⟨.ref a, _, made_tup I k hp hz r e ht, rfl, q a o (I.hok.fresh hp) hd⟩
theorem pe_tupN {es : List Expr} {t : TA} {x1 pos} (h : PA X es t) : PE X (.Tuple es x1 pos) (fun σ H Q => t σ H fun xs H1 => xs.length ≤ sizeLine ∧ newT H1 xs Q) := by
  refine ⟨fun pins s σ H Q I hq => wpAny_Tuple_spliced (thn (h.run pos pins s σ H _ I hq) fun us s1 ⟨xs, H1, I1, r, z, q⟩ => ⟨by rw [← r.length]; exact z, ?_⟩)⟩
  have e := Heap.get?_push_size s1.heap (o := { cls := .type "tuple", data := .seq us.toArray }) rfl
  exact fin_tup (t' := s1.toks) I1 (fun b u e => Heap.get?_push_of_some _ e) (Nat.le_refl _) z r e ⟨_, e, rfl, _, rfl⟩ rfl q
theorem call_tupleN : CallR X (.type "tuple") (fun xs H Q => ∃ p ys, xs = [.ref p] ∧ ((SqL X.K H p ys ∧ newT H ys Q) ∨ (SqT X.K H p ys ∧ Q (.ref p) H))) := fun pins s σ H xs us Q I r h => by
  obtain ⟨p, ys, rfl, h⟩ := h
  obtain ⟨u, rfl, rx⟩ := vals1 r
  cases rx
  rcases h with ⟨hq, q⟩ | ⟨hq, q⟩
  · obtain ⟨its, r', pl, hz⟩ := I.list hq
    have hl := r'.length
    refine call_tuple_list pl.isList (fun h' kp => ?_) (by rw [List.size_toArray, ← hl]; exact hz)
    have I1 : Inv X pins σ H { s with heap := h' } := I.kept (t' := s.toks) kp
    have e := Heap.get?_push_size h' (o := { cls := .type "tuple", data := .seq its.toArray }) rfl
    exact fin_tup (s := { s with heap := h' }) (t' := s.toks) I1 (fun b o e => Heap.get?_push_of_some _ e) (Nat.le_refl _) hz r' e ⟨_, e, rfl, _, rfl⟩ rfl q
  · obtain ⟨its, r', pl, hz⟩ := I.tuple hq
    exact call_tuple_same pl ⟨.ref p, H, I, rfl, q⟩
def rCatN (K : PySem.W.Frag) : R2 := fun x y H Q => ∃ a b xs ys, x = .ref a ∧ y = .ref b ∧ SqT K H a xs ∧ SqT K H b ys ∧ xs.length + ys.length ≤ sizeLine ∧
  (xs = [] → Q (.ref b) H) ∧ (xs ≠ [] → ys = [] → Q (.ref a) H) ∧ (xs ≠ [] → ys ≠ [] → newT H (xs ++ ys) Q)
theorem op_catN : OpR X (binaryOp .Add) (rCatN X.K) := fun pins s σ H x y v u Q I rx ry h => by
  obtain ⟨a, b, xs, ys, rfl, rfl, ha, hb, hz, q0, q1, q2⟩ := h
  by_cases hx : xs = []
  · exact op_catA pins s σ H _ _ v u Q I rx ry ⟨a, b, xs, ys, rfl, rfl, ha, hb, hz, q0, fun z => absurd hx z, fun z => absurd hx z⟩
  · by_cases hy : ys = []
    · exact op_catA pins s σ H _ _ v u Q I rx ry ⟨a, b, xs, ys, rfl, rfl, ha, hb, hz, q0, q1, fun _ z => absurd hy z⟩
    · cases rx; cases ry
      obtain ⟨its, r1, p1, _⟩ := I.tuple ha
      obtain ⟨its2, r2, p2, _⟩ := I.tuple hb
      refine HT.cat_tup p1 p2 (fun z => hx (r1.nil_iff.mp z)) (fun z => absurd (r2.nil_iff.mp z) hy) (fun z => ?_) (by rw [← r1.length, ← r2.length]; exact hz)
      have e := Heap.get?_push_size s.heap (o := { cls := .type "tuple", data := .seq (its ++ its2).toArray }) rfl
      exact fin_tup (t' := s.toks) I (fun b o e => Heap.get?_push_of_some _ e) (Nat.le_refl _) (by rw [List.length_append]; exact hz) (r1.append r2) e ⟨_, e, rfl, _, rfl⟩ rfl (q2 hx hy)
def rSlN (K : PySem.W.Frag) : V → Option Int → Option Int → Hp → VK → Prop := fun x lo hi H Q => ∃ a xs, x = .ref a ∧ SqT K H a xs ∧
  (HT.sIx xs.length 0 lo = 0 ∧ HT.sIx xs.length xs.length hi = xs.length → Q (.ref a) H) ∧ (¬ (HT.sIx xs.length 0 lo = 0 ∧ HT.sIx xs.length xs.length hi = xs.length) → newT H (cutV xs lo hi) Q)
theorem sl_tupN : SlR X (rSlN X.K) := fun pins s σ H x v vl vu lo hi sl Q I rx hs pl pu h => by
  obtain ⟨a, xs, rfl, hx, q1, q2⟩ := h
  by_cases hw : HT.sIx xs.length 0 lo = 0 ∧ HT.sIx xs.length xs.length hi = xs.length
  · exact sl_tupA pins s σ H _ v vl vu lo hi sl Q I rx hs pl pu ⟨a, xs, rfl, hx, q1, fun z => absurd hw z⟩
  · cases rx
    obtain ⟨its, r, ht, hz⟩ := I.tuple hx
    have hl : its.toArray.size = xs.length := by rw [List.size_toArray]; exact r.length.symm
    refine ⟨"tuple", _, PyProof.Rows.slot_tuple_getitem.lookup, ht.typeIs, HT.getItem_tuple_cut ht hs pl pu (by rw [hl]; exact hw) ?_ (by rw [hl]; exact hz)⟩
    rw [hl]
    have e := Heap.get?_push_size s.heap (o := { cls := .type "tuple", data := .seq ((its.drop (HT.sIx xs.length 0 lo)).take (HT.sIx xs.length xs.length hi - HT.sIx xs.length 0 lo)).toArray }) rfl
    exact fin_tup (t' := s.toks) I (fun b o e => Heap.get?_push_of_some _ e) (Nat.le_refl _) (Nat.le_trans (cutV_length xs lo hi) hz) ((r.drop _).take _) e ⟨_, e, rfl, _, rfl⟩ rfl (q2 hw)
end
end Cw
set_option Elab.async false
set_option linter.all false
set_option maxRecDepth 100000
set_option maxHeartbeats 4000000
/-! CwT2: enumerate and zip over lists and over tuples, each pair known as the object that was made. -/
namespace Cw
open PySem PySem.Spec PyProof.Rows L2

/-- a list (false), a tuple (true) -/
def SqX (t : Bool) (K : PySem.W.Frag) (H : Hp) (a : Addr) (xs : List V) : Prop := match t with
  | false => SqL K H a xs
  | true => SqT K H a xs
def InX (t : Bool) (h : Heap) (a : Addr) (its : Array Value) : Prop := match t with
  | false => h.IsList a its
  | true => h.IsTuple a its
def GoX (t : Bool) (h : Heap) (it a : Addr) (i : Nat) : Prop := match t with
  | false => h.IsListIter it a i
  | true => h.IsTupleIter it a i
theorem InX.obj {t : Bool} {h : Heap} {a : Addr} {its : Array Value} (x : InX t h a its) : ∃ o n, h.get? a = some o ∧ o.data = .seq its n := by
  cases t with
  | false => obtain ⟨o, e, _, n, d⟩ := x; exact ⟨o, n, e, d⟩
  | true => obtain ⟨o, e, _, n, d⟩ := x; exact ⟨o, n, e, d⟩
theorem InX.at {t : Bool} {h h' : Heap} {a : Addr} {its : Array Value} (x : InX t h a its) (k : ∀ o, h.get? a = some o → h'.get? a = some o) : InX t h' a its := by
  cases t with
  | false => exact Heap.IsList.at x k
  | true => exact Heap.IsTuple.at x k
theorem GoX.obj {t : Bool} {h : Heap} {it a : Addr} {i : Nat} (x : GoX t h it a i) : ∃ o, h.get? it = some o ∧ ∃ vs, o.data = .fields vs := by
  cases t with
  | false => obtain ⟨o, e, _, d⟩ := x; exact ⟨o, e, _, d⟩
  | true => obtain ⟨o, e, _, d⟩ := x; exact ⟨o, e, _, d⟩
theorem GoX.at {t : Bool} {h h' : Heap} {it a : Addr} {i : Nat} (x : GoX t h it a i) (k : ∀ o, h.get? it = some o → h'.get? it = some o) : GoX t h' it a i := by
  cases t with
  | false => exact Heap.IsListIter.at x k
  | true => exact Heap.IsTupleIter.at x k
theorem drawsX {prog : Program} {w : World} {A : Around} (hh : A.handled = none) (t : Bool) (it l : Addr) (hne : l ≠ it) (items : Array Value) :
    Draws prog w A it [it, l] items.size (fun i v => items[i]? = some v) (fun i h => GoX t h it l i ∧ InX t h l items) := by
  cases t with
  | false => exact Draws.list hh it l hne items
  | true => exact Draws.tuple hh it l hne items
section
variable {X : Cx} {pins : List (Addr × Obj)} {σ : L2.St} {H : Hp} {s : Shared}
theorem seqX {t : Bool} {a : Addr} {xs : List V} (I : Inv X pins σ H s) (h : SqX t X.K H a xs) : ∃ its : List Value, Vals xs its ∧ InX t s.heap a its.toArray := by
  cases t with
  | false => obtain ⟨its, r, p, _⟩ := I.list h; exact ⟨its, r, p.isList⟩
  | true => obtain ⟨its, r, p, _⟩ := I.tuple h; exact ⟨its, r, p⟩
theorem injX {t : Bool} {a : Addr} {xs ys : List V} (I : Inv X pins σ H s) (h : SqX t X.K H a xs) (h' : SqX t X.K H a ys) : xs = ys := by
  cases t with
  | false => exact I.list_inj h h'
  | true => exact I.tuple_inj h h'
end
theorem apartX {t : Bool} {h : Heap} {a b : Addr} {its : Array Value} {o : Obj} {fs : Array Value} (x : InX t h a its) (e : h.get? b = some o) (d : o.data = .fields fs) : b ≠ a := fun z => by
  obtain ⟨o', n, e', d'⟩ := x.obj
  rw [z, e'] at e; cases e
  rw [d'] at d; cases d

/-! ### enumerate -/
def IteX (t : Bool) (K : PySem.W.Frag) (a : Addr) : It :=
  ⟨fun i H => ∃ (xs : List V) (x : V), SqX t K H a xs ∧ xs[i]? = some x,
   fun i H v H' => ∃ T o x, v = .ref T ∧ H T = none ∧ o.dict = none ∧ H' = upd H T (.frz o (.tup [.int (i : Nat), x])) ∧ ∀ xs, SqX t K H a xs → xs[i]? = some x,
   fun i H => ∃ xs : List V, SqX t K H a xs ∧ xs.length = i⟩
theorem turn_enumX {P : Program} {w : World} {K : PySem.W.Frag} {elts : List Expr} {kk : Nat} {tpos : Pos} (t : Bool) (a e it : Addr) :
    Turn P w K (.Tuple elts kk tpos) (IteX t K a) [e, it] e (fun i h => (∃ old, IsEnum h e it ((i : Nat) : Int) old) ∧ GoX t h it a i ∧ e ≠ it) where
  mem := List.mem_cons_self ..
  obj := fun i h ⟨⟨old, he⟩, hi, _⟩ b hb => by
    rcases List.mem_cons.mp hb with z | hb
    · rw [z]; exact ⟨_, he, fun v q => nomatch q⟩
    · obtain ⟨o, ho, vs, hd⟩ := hi.obj
      rw [List.mem_singleton.mp hb]; exact ⟨o, ho, fun v q => by rw [hd] at q; cases q⟩
  keep := fun i h h' ⟨⟨old, he⟩, hi, hne⟩ k => ⟨⟨old, k e (List.mem_cons_self ..) _ he⟩, hi.at fun o q => k it (List.mem_cons_of_mem _ (List.mem_cons_self ..)) o q, hne⟩
  item := by
    rintro X rfl rfl rfl hc i pins s σ H E I hf ⟨⟨old, he⟩, hit, hne⟩ ⟨xs, x, hq, hx⟩
    obtain ⟨its, rv, p⟩ := seqX I hq
    obtain ⟨u, hu, ru⟩ := rv.get hx
    obtain ⟨oi, hoi, fs, hdi⟩ := hit.obj
    have nea : e ≠ a := apartX p he rfl
    have nia : it ≠ a := apartX p hoi hdi
    have hlt : i < its.toArray.size := by
      rw [List.size_toArray]
      rcases Nat.lt_or_ge i its.length with q | q
      · exact q
      · rw [List.getElem?_eq_none q] at hu; cases hu
    have hel : e < s.heap.objs.size := Heap.lt_size he
    have hh : X.A.in1.handled = none := I.ok.hd hc
    have D1 := drawsX (prog := X.prog) (w := X.w) hh t it a (Ne.symm nia) its.toArray
    refine wpAny_pyNext_enum_itemD D1 he ⟨hit, p⟩ hlt hne (by simp [hne, nea]) fun y h' tk hy ho' st' hT hsz hk => ?_
    have hy2 : y = u := by
      rw [List.getElem?_toArray, hu] at hy
      cases hy; rfl
    subst hy2
    refine ⟨_, rfl, wpAny_letOwnedTupleGo_enum (s := { s with heap := h', toks := tk + 1 }) ho' fun h'' he' sb => ?_⟩
    have hT2 := (sb.2 s.heap.objs.size (Nat.ne_of_gt hel)).trans hT
    have new : ObjOk X.prog X.w (upd H s.heap.objs.size (.frz { cls := .type "tuple", data := .seq #[.int i tk, y] } (.tup [.int (i : Nat), x]))) h'' s.heap.objs.size (.frz { cls := .type "tuple", data := .seq #[.int i tk, y] } (.tup [.int (i : Nat), x])) :=
      ⟨hT2, by show 2 ≤ sizeLine; decide, [.int i tk, y], .cons ⟨_, rfl⟩ (.cons ru .nil), ⟨_, hT2, rfl, _, rfl⟩⟩
    have I1 := I.turnedNew (t' := tk + 1) (h' := h'') (ch := [e, it]) (fun b ob hb q => (sb.2 b (fun z => hb (by simp [z]))).trans (hk b ob (fun z => hb (by simp [z])) (fun z => hb (by simp [z])) q)) hf (Nat.le_refl _) new
    refine ⟨.ref s.heap.objs.size, _, I1, rfl, ⟨_, _, x, rfl, I.hok.fresh (Nat.le_refl _), rfl, rfl, fun ys hy => by rw [injX I hy hq]; exact hx⟩, ⟨⟨y, ?_⟩, st'.1.at fun o q => (sb.2 it (Ne.symm hne)).trans q, hne⟩, fun b hb => ?_⟩
    · have e1 : ((i + 1 : Nat) : Int) = (i : Int) + 1 := by omega
      rw [e1]; exact he'
    · have hb' : b < s.heap.objs.size := by
        rcases List.mem_cons.mp hb with z | z
        · rw [z]; exact hel
        · rw [List.mem_singleton.mp z]; exact Heap.lt_size hoi
      rw [upd_ne (Nat.ne_of_lt hb')]
      exact (hf b hb).1
  done := by
    rintro X rfl rfl rfl hc i pins s σ H E I hf ⟨⟨old, he⟩, hit, hne⟩ ⟨xs, hq, rfl⟩
    obtain ⟨its, rv, p⟩ := seqX I hq
    obtain ⟨oi, hoi, fs, hdi⟩ := hit.obj
    obtain ⟨f0, f1, f2, f3, f4, f5⟩ := hf it (by simp)
    have hl : xs.length = its.toArray.size := by rw [List.size_toArray]; exact rv.length
    have hh : X.A.in1.handled = none := I.ok.hd hc
    have D1 := drawsX (prog := X.prog) (w := X.w) hh t it a (Ne.symm (apartX p hoi hdi)) its.toArray
    refine wpAny_pyNext_enum_endD D1 he ⟨hl ▸ hit, p⟩ fun h' eb => ⟨rfl, I.turned (t' := s.toks) (fun b o hb q => eb b o hb q) f0 f1 f3 f4 f5⟩
  self := fun A i s Q E st h => let ⟨⟨_, he⟩, _⟩ := st; wpAny_pyIter_enum he h
theorem enum_new_tuple (l : Addr) (items : Array Value) (o : Obj) (hc : o.cls = .type "tuple") (hd : ∃ n, o.data = .seq items n) :
    Meets (Builtin.«enumerate.__new__» ⟨[.type "enumerate", .ref l], []⟩) (fun _ R s => s.heap.get? l = some o ∧
      R (.ok (.ret (.ref (s.heap.push { cls := .type "tuple_iterator", data := .fields #[.ref l, .int 0 0] }).objs.size)))
        { s with heap := (s.heap.push { cls := .type "tuple_iterator", data := .fields #[.ref l, .int 0 0] }).push { cls := .type "enumerate", data := .fields #[.none, .bool false, .ref s.heap.objs.size, rawInt 0, .none, .none] } }) :=
  .of_wp fun prog w A R ⟨hp, g, d, tk, os⟩ ⟨hl, h⟩ => by
    obtain ⟨n, hd⟩ := hd
    have hT : Heap.IsTuple (Shared.heap ⟨hp, g, d, tk, os⟩) l items := ⟨o, hl, hc, n, hd⟩
    have hsub := sub_enumerate
    wp_walk
    refine wpAny_stack_any fun st => wpAny_pure ?_
    split
    · rename_i c _ _ _ _ _
      cases (c == Value.type "enumerate") <;> (wp_walk using wpAny_pyIter_tuple hT; exact ⟨_, rfl, h⟩)
    · wp_walk using wpAny_pyIter_tuple hT
      exact ⟨_, rfl, h⟩
section
variable {prog : Program} {w : World} {A : Around} {E : Value → Shared → Prop} {s : Shared}
theorem call_enumX {t : Bool} {l : Addr} {items : Array Value} {Q : Value → Shared → Prop} (hL : InX t s.heap l items)
    (h : ∀ h', IsEnum h' (s.heap.objs.size + 1) s.heap.objs.size 0 .none → GoX t h' s.heap.objs.size l 0 → (∀ b o, s.heap.get? b = some o → h'.get? b = some o) → Q (.ref (s.heap.objs.size + 1)) { s with heap := h' }) :
    wpAny (model prog w) A (call (.type "enumerate") [.ref l]) Q E s := by
  cases t with
  | false => exact call_enumerate_list hL fun h' a b _ k => h h' a b k
  | true =>
    obtain ⟨o, ho, hc, hd⟩ := hL
    refine callType_new F.called_enumerate (by decide) (F.typeCall_enumerate_1 _) (F.newCall_enumerate_1 _) (fun obj => F.args_object_init_2 obj _) F.entry_enumerate_new (enum_new_tuple l items o hc hd) ⟨ho, ?_⟩
    have hz : (s.heap.push { cls := .type "tuple_iterator", data := .fields #[.ref l, .int 0 0] }).objs.size = s.heap.objs.size + 1 := Heap.size_push ..
    have e1 := Heap.get?_push_size (s.heap.push { cls := .type "tuple_iterator", data := .fields #[.ref l, .int 0 0] }) (o := { cls := .type "enumerate", data := .fields #[.none, .bool false, .ref s.heap.objs.size, rawInt 0, .none, .none] }) rfl
    rw [hz] at e1
    have e2 := Heap.get?_push_of_some (o := { cls := .type "enumerate", data := .fields #[.none, .bool false, .ref s.heap.objs.size, rawInt 0, .none, .none] }) (Heap.get?_push_size s.heap (o := { cls := .type "tuple_iterator", data := .fields #[.ref l, .int 0 0] }) rfl)
    show _ ∧ _
    rw [hz]
    exact ⟨⟨_, e1, rfl⟩, h _ e1 ⟨_, e2, rfl, rfl⟩ fun b o x => Heap.get?_push_of_some _ (Heap.get?_push_of_some _ x)⟩
end
def iEnumX (t : Bool) (K : PySem.W.Frag) (ta : TA) : TI := fun σ H R => ta σ H fun vs H1 => ∃ a xs, vs = [.ref a] ∧ SqX t K H1 a xs ∧ R (IteX t K a) H1
theorem pi_enumX {X : Cx} {e : Expr} {ta : TA} {p pos tpos : Pos} {elts : List Expr} {kk : Nat} (t : Bool) (hg : Gl X "enumerate") (hm : X.mg "enumerate" = none) (ha : PA X [e] ta) (hs : starEach [e] X.env = [(false, eval e X.env)] := by rfl) :
    PI X (.Tuple elts kk tpos) (.Call (.Name "enumerate" p) [e] [] pos) (iEnumX t X.K ta) := by
  refine ⟨fun pins s σ H R I h => Call_ (ld_blt I hg hm boot_enumerate (PyProof.Rows.callWith_type1 (thn (ha.run pos pins s σ H _ I h) fun us s1 ⟨vs, H1, I1, r1, a, xs, ex, hq, q⟩ => ?_) hs rfl))⟩
  subst ex
  obtain ⟨u, rfl, r⟩ := vals1 r1
  cases r
  obtain ⟨its, rv, p'⟩ := seqX I1 hq
  refine call_enumX p' fun h' he hit hk => wpAny_pyIter_enum he ?_
  refine ⟨s1.heap.objs.size + 1, [s1.heap.objs.size + 1, s1.heap.objs.size], _, _, H1, rfl, I1.kept (t' := s1.toks) hk, turn_enumX t a (s1.heap.objs.size + 1) s1.heap.objs.size, ⟨⟨.none, he⟩, hit, Nat.succ_ne_self _⟩, fun b hb => ?_, q⟩
  have hle : s1.heap.objs.size ≤ b := by
    rcases List.mem_cons.mp hb with z | z
    · rw [z]; exact Nat.le_add_right _ _
    · rw [List.mem_singleton.mp z]; exact Nat.le_refl _
  exact I1.fpOk hle (I1.hok.fresh hle)

/-! ### zip -/
def ItzX (t : Bool) (K : PySem.W.Frag) (a b : Addr) : It :=
  ⟨fun i H => ∃ (xs ys : List V) (x y : V), SqX t K H a xs ∧ SqX t K H b ys ∧ xs[i]? = some x ∧ ys[i]? = some y,
   fun i H v H' => ∃ T o x y, v = .ref T ∧ H T = none ∧ o.dict = none ∧ H' = upd H T (.frz o (.tup [x, y])) ∧ (∀ xs, SqX t K H a xs → xs[i]? = some x) ∧ ∀ ys, SqX t K H b ys → ys[i]? = some y,
   fun i H => ∃ xs ys : List V, SqX t K H a xs ∧ SqX t K H b ys ∧ i ≤ xs.length ∧ i ≤ ys.length ∧ (i = xs.length ∨ i = ys.length)⟩
theorem lt_of_get {α : Type} {xs : List α} {i : Nat} {x : α} (h : xs[i]? = some x) : i < xs.length := by
  rcases Nat.lt_or_ge i xs.length with q | q
  · exact q
  · rw [List.getElem?_eq_none q] at h; cases h
theorem sepX {z TI TO i1 i2 a b : Addr} (D : ZipApart z TI TO i1 i2 a b) : ZipSep2 z TI TO i1 i2 [i1, a] [i2, b] :=
  { TIz := D.TIz, TOz := D.TOz, TITO := D.TITO, TIi1 := D.TIi1, mem1 := by simp, zf1 := by simp [D.i1z.symm, D.l1z.symm], Tf1 := by simp [D.TOi1, D.l1TO.symm],
    TIi2 := D.TIi2, mem2 := by simp, zf2 := by simp [D.i2z.symm, D.l2z.symm], Tf2 := by simp [D.TOi2, D.l2TO.symm], sep1_2 := by simp [D.i12, D.l2i1.symm], sep2_1 := by simp [D.i12.symm, D.l1i2.symm] }
theorem turn_zipX {P : Program} {w : World} {K : PySem.W.Frag} {elts : List Expr} {kk : Nat} {tpos : Pos} (t : Bool) {a b z TI TO i1 i2 : Addr} (D : ZipApart z TI TO i1 i2 a b) :
    Turn P w K (.Tuple elts kk tpos) (ItzX t K a b) [z, TI, TO, i1, i2] z (fun i h => IsZip h z TI TO .none ∧ IsTupOf2 h TI (.ref i1) (.ref i2) ∧ (∃ x y, IsTupOf2 h TO x y) ∧ GoX t h i1 a i ∧ GoX t h i2 b i) where
  mem := List.mem_cons_self ..
  obj := fun i h ⟨hz, hTI, ⟨x, y, hTO⟩, h1, h2⟩ c hc => by
    obtain ⟨o1, e1, v1, d1⟩ := h1.obj
    obtain ⟨o2, e2, v2, d2⟩ := h2.obj
    simp only [List.mem_cons, List.not_mem_nil, or_false] at hc
    rcases hc with rfl | rfl | rfl | rfl | rfl
    · exact ⟨_, hz, fun v q => nomatch q⟩
    · exact ⟨_, hTI, fun v q => nomatch q⟩
    · exact ⟨_, hTO, fun v q => nomatch q⟩
    · exact ⟨o1, e1, fun v q => by rw [d1] at q; cases q⟩
    · exact ⟨o2, e2, fun v q => by rw [d2] at q; cases q⟩
  keep := fun i h h' ⟨hz, hTI, ⟨x, y, hTO⟩, h1, h2⟩ k => ⟨k z (by simp) _ hz, k TI (by simp) _ hTI, ⟨x, y, k TO (by simp) _ hTO⟩, h1.at fun o q => k i1 (by simp) o q, h2.at fun o q => k i2 (by simp) o q⟩
  item := by
    rintro X rfl rfl rfl hc i pins s σ H E I hf ⟨hz, hTI, ⟨x0, y0, hTO⟩, h1, h2⟩ ⟨xs, ys, x, y, hqx, hqy, hx, hy⟩
    obtain ⟨its, rv, p⟩ := seqX I hqx
    obtain ⟨its2, rv2, p2⟩ := seqX I hqy
    obtain ⟨u, hu, ru⟩ := rv.get hx
    obtain ⟨u2, hu2, ru2⟩ := rv2.get hy
    obtain ⟨o1, e1, v1, d1⟩ := h1.obj
    obtain ⟨o2, e2, v2, d2⟩ := h2.obj
    have hzl : z < s.heap.objs.size := Heap.lt_size hz
    have hh : X.A.in1.handled = none := I.ok.hd hc
    have D1 := drawsX (prog := X.prog) (w := X.w) hh t i1 a (Ne.symm (apartX p e1 d1)) its.toArray
    have D2 := drawsX (prog := X.prog) (w := X.w) hh t i2 b (Ne.symm (apartX p2 e2 d2)) its2.toArray
    refine wpAny_pyNext_zipD2_item (sepX D) D1 D2 hz hTI hTO ⟨h1, p⟩ ⟨h2, p2⟩
      (by rw [List.size_toArray]; exact lt_of_get hu) (by rw [List.size_toArray]; exact lt_of_get hu2) fun q1 q2 h' tk g1 g2 z' TO' s1 s2 hT hsz hk => ?_
    rw [List.getElem?_toArray, hu] at g1
    rw [List.getElem?_toArray, hu2] at g2
    cases g1; cases g2
    refine ⟨_, rfl, wpAny_letOwnedTupleGo_zip (s := { s with heap := h', toks := tk }) z' fun h'' z'' sb => ?_⟩
    have hT2 := (sb.2 s.heap.objs.size (Nat.ne_of_gt hzl)).trans hT
    have new : ObjOk X.prog X.w (upd H s.heap.objs.size (.frz { cls := .type "tuple", data := .seq #[u, u2] } (.tup [x, y]))) h'' s.heap.objs.size (.frz { cls := .type "tuple", data := .seq #[u, u2] } (.tup [x, y])) :=
      ⟨hT2, by show 2 ≤ sizeLine; decide, [u, u2], .cons ru (.cons ru2 .nil), ⟨_, hT2, rfl, _, rfl⟩⟩
    have I1 := I.turnedNew (t' := tk) (h' := h'') (ch := [z, TI, TO, i1, i2]) (fun c o hb q => (sb.2 c (fun q' => hb (by simp [q']))).trans (hk c o (fun q' => hb (by simp [q'])) (fun q' => hb (by simp [q'])) (fun q' => hb (by simp [q'])) (fun q' => hb (by simp [q'])) q)) hf (Nat.le_refl _) new
    refine ⟨.ref s.heap.objs.size, _, I1, rfl, ⟨_, _, x, y, rfl, I.hok.fresh (Nat.le_refl _), rfl, rfl, fun l hl => by rw [injX I hl hqx]; exact hx, fun l hl => by rw [injX I hl hqy]; exact hy⟩, ⟨z'', ?_, ⟨u, u2, ?_⟩, ?_, ?_⟩, fun c hcm => ?_⟩
    · exact (sb.2 _ D.TIz).trans (hk _ _ D.TIz D.TITO D.TIi1 D.TIi2 hTI)
    · exact (sb.2 _ D.TOz).trans TO'
    · exact s1.1.at fun o q => (sb.2 _ D.i1z).trans q
    · exact s2.1.at fun o q => (sb.2 _ D.i2z).trans q
    · have hlt : c < s.heap.objs.size := by
        simp only [List.mem_cons, List.not_mem_nil, or_false] at hcm
        rcases hcm with rfl | rfl | rfl | rfl | rfl
        · exact hzl
        · exact Heap.lt_size hTI
        · exact Heap.lt_size hTO
        · exact Heap.lt_size e1
        · exact Heap.lt_size e2
      rw [upd_ne (Nat.ne_of_lt hlt)]
      exact (hf c hcm).1
  done := by
    rintro X rfl rfl rfl hc i pins s σ H E I hf ⟨hz, hTI, ⟨x0, y0, hTO⟩, h1, h2⟩ ⟨xs, ys, hqx, hqy, l1, l2, he⟩
    obtain ⟨its, rv, p⟩ := seqX I hqx
    obtain ⟨its2, rv2, p2⟩ := seqX I hqy
    obtain ⟨o1, e1, v1, d1⟩ := h1.obj
    obtain ⟨o2, e2, v2, d2⟩ := h2.obj
    have hh : X.A.in1.handled = none := I.ok.hd hc
    have D1 := drawsX (prog := X.prog) (w := X.w) hh t i1 a (Ne.symm (apartX p e1 d1)) its.toArray
    have D2 := drawsX (prog := X.prog) (w := X.w) hh t i2 b (Ne.symm (apartX p2 e2 d2)) its2.toArray
    have n1 : its.toArray.size = xs.length := by rw [List.size_toArray]; exact rv.length.symm
    have n2 : its2.toArray.size = ys.length := by rw [List.size_toArray]; exact rv2.length.symm
    exact wpAny_pyNext_zipD2_end (sepX D) D1 D2 hz hTI hTO ⟨h1, p⟩ ⟨h2, p2⟩
      (by omega) (by omega) (by omega) fun h' tk hk => ⟨rfl, I.turnedL (t' := tk) (ch := [z, TI, TO, i1, i2]) (fun c o hb q =>
      hk c o (fun q' => hb (by simp [q'])) (fun q' => hb (by simp [q'])) (fun q' => hb (by simp [q'])) (fun q' => hb (by simp [q'])) q) hf⟩
  self := fun A i s Q E st h => wpAny_pyIter_zip st.1 h
section
variable {prog : Program} {w : World} {A : Around} {E : Value → Shared → Prop} {s : Shared}
theorem call_zipX {t : Bool} {l1 l2 : Addr} {xs ys : Array Value} {Q : Value → Shared → Prop} (hl1 : InX t s.heap l1 xs) (hl2 : InX t s.heap l2 ys)
    (h : ∀ h', IsZip h' (s.heap.objs.size + 4) (s.heap.objs.size + 2) (s.heap.objs.size + 3) .none → IsTupOf2 h' (s.heap.objs.size + 2) (.ref s.heap.objs.size) (.ref (s.heap.objs.size + 1)) →
      IsTupOf2 h' (s.heap.objs.size + 3) .none .none → GoX t h' s.heap.objs.size l1 0 → GoX t h' (s.heap.objs.size + 1) l2 0 →
      (∀ c o, s.heap.get? c = some o → h'.get? c = some o) → Q (.ref (s.heap.objs.size + 4)) { s with heap := h' }) :
    wpAny (model prog w) A (call (.type "zip") [.ref l1, .ref l2]) Q E s := by
  cases t with
  | false => exact call_zip_2 hl1 hl2 fun h' a b c d e _ k => h h' a b c d e k
  | true => exact RZ.call_zipT hl1 hl2 fun h' a b c d e _ k => h h' a b c d e k
end
def iZipX (t : Bool) (K : PySem.W.Frag) (ta : TA) : TI := fun σ H R => ta σ H fun vs H1 => ∃ a b xs ys, vs = [.ref a, .ref b] ∧ SqX t K H1 a xs ∧ SqX t K H1 b ys ∧ R (ItzX t K a b) H1
theorem pi_zipX {X : Cx} {e e2 : Expr} {ta : TA} {p pos tpos : Pos} {elts : List Expr} {kk : Nat} (t : Bool) (hg : Gl X "zip") (hm : X.mg "zip" = none) (ha : PA X [e, e2] ta)
    (hs : starEach [e, e2] X.env = (false, eval e X.env) :: starEach [e2] X.env := by rfl) (hpl : (backTo pos (starEach [e2] X.env)).any (·.1) = false := by rfl) :
    PI X (.Tuple elts kk tpos) (.Call (.Name "zip" p) [e, e2] [] pos) (iZipX t X.K ta) := by
  refine ⟨fun pins s σ H R I h => Call_ (ld_blt I hg hm PyProof.Rows.boot_zip (PyProof.Rows.callWith_type1 (thn (ha.run pos pins s σ H _ I h) fun us s1 ⟨vs, H1, I1, r1, a, b, xs, ys, ex, hqx, hqy, q⟩ => ?_) hs hpl))⟩
  subst ex
  cases r1 with
  | cons r rr =>
    obtain ⟨u, rfl, r'⟩ := vals1 rr
    cases r
    cases r'
    obtain ⟨its, rv, p1⟩ := seqX I1 hqx
    obtain ⟨its2, rv2, p2⟩ := seqX I1 hqy
    have l1 : a < s1.heap.objs.size := by obtain ⟨o, n, e, _⟩ := p1.obj; exact Heap.lt_size e
    have l2 : b < s1.heap.objs.size := by obtain ⟨o, n, e, _⟩ := p2.obj; exact Heap.lt_size e
    refine call_zipX p1 p2 fun h' hz hTI hTO h1 h2 hk => wpAny_pyIter_zip hz ?_
    refine ⟨s1.heap.objs.size + 4, [s1.heap.objs.size + 4, s1.heap.objs.size + 2, s1.heap.objs.size + 3, s1.heap.objs.size, s1.heap.objs.size + 1], _, _, H1, rfl, I1.kept (t' := s1.toks) hk,
      turn_zipX t (PySem.W.ktu_apart s1.heap.objs.size a b l1 l2), ⟨hz, hTI, ⟨_, _, hTO⟩, h1, h2⟩, fun c hcm => ?_, q⟩
    have hle : s1.heap.objs.size ≤ c := by
      simp only [List.mem_cons, List.not_mem_nil, or_false] at hcm
      rcases hcm with z | z | z | z | z <;> rw [z] <;> first | exact Nat.le_refl _ | exact Nat.le_add_right _ _
    exact I1.fpOk hle (I1.hok.fresh hle)
end Cw
set_option Elab.async false
set_option linter.all false
set_option maxRecDepth 100000
set_option maxHeartbeats 4000000
/-! Cw1: pure data over the hand layer: values as trees, a small store, readings by functions. -/
namespace Cw
open PySem PySem.Spec PyProof.Rows L2

/-- pure data: lists and dicts as values (never changed again) -/
inductive P where
  | non | bl (b : Bool) | int (i : Int) | str (s : Str) | tup (xs : List P) | ro (xs : List P) | scr (xs : List P) | dic (kvs : List (Key × P))
  deriving Inhabited
/-- a value: pure data, or a thing of the store -/
inductive D where
  | p (x : P) | ref (n : Nat)
  deriving Inhabited
inductive Ob where
  | lst (xs : List P) | dic (kvs : List (Key × P)) | gone
  deriving Inhabited
abbrev Sto := List Ob
abbrev Ev := List (Option D)
/-- what is raised: the class's name, what it was made of -/
structure Exn where
  cls : Str
  val : P
inductive R (α : Type) where
  | ok (a : α) (S : Sto) | ex (e : Exn) (S : Sto) | no
def R.bind {α β : Type} (r : R α) (f : α → Sto → R β) : R β := match r with
  | .ok a S => f a S
  | .ex e S => .ex e S
  | .no => .no
@[simp] theorem bind_okE {α β : Type} (a : α) (S : Sto) (f : α → Sto → R β) : (R.ok a S).bind f = f a S := rfl
@[simp] theorem bind_exE {α β : Type} (e : Exn) (S : Sto) (f : α → Sto → R β) : (R.ex e S).bind f = .ex e S := rfl
@[simp] theorem bind_noE {α β : Type} (f : α → Sto → R β) : (R.no : R α).bind f = .no := rfl
theorem bind_ok {α β : Type} {r : R α} {f : α → Sto → R β} {b : β} {S' : Sto} (h : r.bind f = .ok b S') : ∃ a S, r = .ok a S ∧ f a S = .ok b S' := by
  cases r with
  | ok a S => exact ⟨a, S, rfl, h⟩
  | ex e S => cases h
  | no => cases h

/-- where the store's things lie (a gone thing lies nowhere), and the things that are being made -/
structure Lk where
  ix : List (Option Addr)
  hid : List Addr
def Lk.has (ι : Lk) (a : Addr) : Prop := some a ∈ ι.ix ∨ a ∈ ι.hid
def Lk.hide (ι : Lk) (a : Addr) : Lk := ⟨ι.ix, a :: ι.hid⟩
def Lk.add (ι : Lk) (a : Addr) : Lk := ⟨ι.ix ++ [some a], ι.hid⟩

/-! ### how the world may change -/
structure Step (ι : Lk) (H : Hp) (ι' : Lk) (H' : Hp) : Prop where
  hid : ι'.hid = ι.hid
  len : ι.ix.length ≤ ι'.ix.length
  old : ∀ (n : Nat) (o : Option Addr), ι.ix[n]? = some o → ι'.ix[n]? = some o ∨ ι'.ix[n]? = some none
  new : ∀ a, some a ∈ ι'.ix → some a ∈ ι.ix ∨ H a = none
  keep : ∀ a o, H a = some o → some a ∉ ι.ix → H' a = some o
  there : ∀ a, H' a = none → H a = none
theorem Step.refl (ι : Lk) (H : Hp) : Step ι H ι H := ⟨rfl, Nat.le_refl _, fun _ _ h => .inl h, fun _ h => .inl h, fun _ _ h _ => h, fun _ h => h⟩
theorem Step.trans {ι1 ι2 ι3 : Lk} {H1 H2 H3 : Hp} (a : Step ι1 H1 ι2 H2) (b : Step ι2 H2 ι3 H3) : Step ι1 H1 ι3 H3 where
  hid := b.hid.trans a.hid
  len := Nat.le_trans a.len b.len
  old := fun n o h => by
    rcases a.old n o h with q | q
    · exact b.old n o q
    · rcases b.old n none q with z | z <;> exact .inr z
  new := fun x h => by
    rcases b.new x h with q | q
    · exact a.new x q
    · exact .inr (a.there x q)
  keep := fun x o h hn => by
    refine b.keep x o (a.keep x o h hn) fun hm => ?_
    rcases a.new x hm with q | q
    · exact hn q
    · rw [h] at q; cases q
  there := fun x h => a.there x (b.there x h)

/-- the same, what is being made apart -/
structure StepH (ι : Lk) (H : Hp) (ι' : Lk) (H' : Hp) : Prop where
  old : ∀ (n : Nat) (o : Option Addr), ι.ix[n]? = some o → ι'.ix[n]? = some o ∨ ι'.ix[n]? = some none
  has : ∀ a, ι'.has a → ι.has a ∨ H a = none
  keep : ∀ a o, H a = some o → ¬ ι.has a → H' a = some o
theorem Step.h {ι ι' : Lk} {H H' : Hp} (st : Step ι H ι' H') : StepH ι H ι' H' :=
  ⟨st.old, fun a ha => ha.elim (fun q => (st.new a q).elim (fun z => .inl (.inl z)) .inr) fun q => .inl (.inr (st.hid ▸ q)), fun a o h hn => st.keep a o h fun q => hn (.inl q)⟩

section
variable (K : PySem.W.Frag) (ι : Lk) (H : Hp)
/-- a tuple, a list, a dict that stands: not of the store -/
def NT (a : Addr) (vs : List V) : Prop := ∃ o : Obj, o.dict = none ∧ H a = some (.frz o (.tup vs))
def KT (a : Addr) (vs : List V) : Prop := ∃ (o : Obj) (its : Array Value) (n : Nat), K.lookup a = some o ∧ o.cls = .type "tuple" ∧ o.dict = none ∧ o.data = .seq its n ∧ its.size ≤ sizeLine ∧ Vals vs its.toList
def TupAt (a : Addr) (vs : List V) : Prop := (NT H a vs ∧ ¬ ι.has a) ∨ KT K a vs
def LstAt (a : Addr) (vs : List V) : Prop := (Rd H a (.lst vs) ∧ ¬ ι.has a) ∨ SqL K (fun _ => none) a vs
mutual
inductive RP : V → P → Prop
  | non : RP .non .non
  | bl (b : Bool) : RP (.bl b) (.bl b)
  | int (i : Int) : RP (.int i) (.int i)
  | str {s : Str} : PyData.strOk s = true → RP (.str s) (.str s)
  | tup {a : Addr} {vs : List V} {xs : List P} : TupAt K ι H a vs → RPs vs xs → RP (.ref a) (.tup xs)
  | ro {a : Addr} {vs : List V} {xs : List P} : Rd H a (.lst vs) → ¬ ι.has a → RPs vs xs → RP (.ref a) (.ro xs)
  | scr {a : Addr} {vs : List V} {xs : List P} : LstAt K ι H a vs → RPs vs xs → RP (.ref a) (.scr xs)
  | dic {a : Addr} {kws : List (Key × V)} {kvs : List (Key × P)} : Rd H a (.dK kws) → ¬ ι.has a → RKs kws kvs → RP (.ref a) (.dic kvs)
inductive RPs : List V → List P → Prop
  | nil : RPs [] []
  | cons {v : V} {vs : List V} {x : P} {xs : List P} : RP v x → RPs vs xs → RPs (v :: vs) (x :: xs)
inductive RKs : List (Key × V) → List (Key × P) → Prop
  | nil : RKs [] []
  | cons {k : Key} {v : V} {vs : List (Key × V)} {x : P} {xs : List (Key × P)} : RP v x → RKs vs xs → RKs ((k, v) :: vs) ((k, x) :: xs)
end
inductive RD : V → D → Prop
  | p {v : V} {x : P} : RP K ι H v x → RD v (.p x)
  | ref {v : V} {n : Nat} {o : Option Addr} : ι.ix[n]? = some o → (∀ a, o = some a → v = .ref a) → RD v (.ref n)
inductive RDs : List V → List D → Prop
  | nil : RDs [] []
  | cons {v : V} {vs : List V} {x : D} {xs : List D} : RD K ι H v x → RDs vs xs → RDs (v :: vs) (x :: xs)
/-- what a thing of the store is -/
inductive ROb : Option (Option Addr) → Ob → Prop
  | lst {a : Addr} {vs : List V} {xs : List P} : H a = some (.lst vs) → RPs K ι H vs xs → ROb (some (some a)) (.lst xs)
  | dic {a : Addr} {kws : List (Key × V)} {kvs : List (Key × P)} : H a = some (.dK kws) → RKs K ι H kws kvs → ROb (some (some a)) (.dic kvs)
  | gone : ROb (some none) .gone
structure Wd (S : Sto) : Prop where
  len : ι.ix.length = S.length
  nd : ∀ (n m : Nat) (a : Addr), ι.ix[n]? = some (some a) → ι.ix[m]? = some (some a) → n = m
  ob : ∀ (n : Nat) (o : Ob), S[n]? = some o → ROb K ι H ι.ix[n]? o
  hd : ∀ a, a ∈ ι.hid → H a ≠ none ∧ some a ∉ ι.ix
structure Cf (σ : L2.St) (ρ : Ev) (S : Sto) : Prop where
  wd : Wd K ι H S
  len : σ.length = ρ.length
  sv : ∀ (i : Nat) (d : D), ρ[i]? = some (some d) → ∃ v, σ[i]? = some (some v) ∧ RD K ι H v d
end

section
variable {K : PySem.W.Frag} {ι ι' : Lk} {H H' : Hp}
theorem NT.rd {a : Addr} {vs : List V} (h : NT H a vs) : Rd H a (.tup vs) := let ⟨o, _, e⟩ := h; .inr ⟨o, e⟩
theorem TupAt.sq {a : Addr} {vs : List V} (h : TupAt K ι H a vs) : SqT K H a vs := by
  rcases h with h | ⟨o, its, n, h1, h2, _, h3, h4, h5⟩
  · exact .inl h.1.rd
  · exact .inr ⟨o, its, n, h1, h2, h3, h4, h5⟩
theorem LstAt.sq {a : Addr} {vs : List V} (h : LstAt K ι H a vs) : SqL K H a vs := by
  rcases h with h | h
  · exact .inl h.1
  · rcases h with (h | ⟨_, h⟩) | h
    · cases h
    · cases h
    · exact .inr h
theorem StepH.out (st : StepH ι H ι' H') {a : Addr} {o : HO} (h : H a = some o) (hn : ¬ ι.has a) : ¬ ι'.has a := fun hm => by
  rcases st.has a hm with q | q
  · exact hn q
  · rw [h] at q; cases q
theorem StepH.rd (st : StepH ι H ι' H') {a : Addr} {u : HO} (h : Rd H a u) (hn : ¬ ι.has a) : Rd H' a u ∧ ¬ ι'.has a := by
  rcases h with h | ⟨o, h⟩
  · exact ⟨.inl (st.keep _ _ h hn), st.out h hn⟩
  · exact ⟨.inr ⟨o, st.keep _ _ h hn⟩, st.out h hn⟩
theorem TupAt.monoH (st : StepH ι H ι' H') {a : Addr} {vs : List V} (h : TupAt K ι H a vs) : TupAt K ι' H' a vs := by
  rcases h with ⟨⟨o, d, h⟩, hn⟩ | h
  · exact .inl ⟨⟨o, d, st.keep _ _ h hn⟩, st.out h hn⟩
  · exact .inr h
theorem LstAt.monoH (st : StepH ι H ι' H') {a : Addr} {vs : List V} (h : LstAt K ι H a vs) : LstAt K ι' H' a vs := by
  rcases h with ⟨h, hn⟩ | h
  · exact .inl (st.rd h hn)
  · exact .inr h
theorem TupAt.mono (st : Step ι H ι' H') {a : Addr} {vs : List V} (h : TupAt K ι H a vs) : TupAt K ι' H' a vs := h.monoH st.h
theorem LstAt.mono (st : Step ι H ι' H') {a : Addr} {vs : List V} (h : LstAt K ι H a vs) : LstAt K ι' H' a vs := h.monoH st.h
mutual
theorem RP.monoH (st : StepH ι H ι' H') : ∀ {v : V} {x : P}, RP K ι H v x → RP K ι' H' v x
  | _, _, .non => .non
  | _, _, .bl b => .bl b
  | _, _, .int i => .int i
  | _, _, .str s => .str s
  | _, _, .tup h r => .tup (h.monoH st) (RPs.monoH st r)
  | _, _, .ro h hn r => .ro (st.rd h hn).1 (st.rd h hn).2 (RPs.monoH st r)
  | _, _, .scr h r => .scr (h.monoH st) (RPs.monoH st r)
  | _, _, .dic h hn r => .dic (st.rd h hn).1 (st.rd h hn).2 (RKs.monoH st r)
theorem RPs.monoH (st : StepH ι H ι' H') : ∀ {v : List V} {x : List P}, RPs K ι H v x → RPs K ι' H' v x
  | _, _, .nil => .nil
  | _, _, .cons h r => .cons (RP.monoH st h) (RPs.monoH st r)
theorem RKs.monoH (st : StepH ι H ι' H') : ∀ {v : List (Key × V)} {x : List (Key × P)}, RKs K ι H v x → RKs K ι' H' v x
  | _, _, .nil => .nil
  | _, _, .cons h r => .cons (RP.monoH st h) (RKs.monoH st r)
end
theorem RP.mono (st : Step ι H ι' H') {v : V} {x : P} (r : RP K ι H v x) : RP K ι' H' v x := r.monoH st.h
theorem RPs.mono (st : Step ι H ι' H') {v : List V} {x : List P} (r : RPs K ι H v x) : RPs K ι' H' v x := r.monoH st.h
theorem RKs.mono (st : Step ι H ι' H') {v : List (Key × V)} {x : List (Key × P)} (r : RKs K ι H v x) : RKs K ι' H' v x := r.monoH st.h
theorem RD.monoH (st : StepH ι H ι' H') {v : V} {d : D} (h : RD K ι H v d) : RD K ι' H' v d := by
  cases h with
  | p h => exact .p (h.monoH st)
  | ref e h =>
    rcases st.old _ _ e with q | q
    · exact .ref q h
    · exact .ref q fun a z => by cases z
theorem RD.mono (st : Step ι H ι' H') {v : V} {d : D} (h : RD K ι H v d) : RD K ι' H' v d := h.monoH st.h
theorem RDs.mono (st : Step ι H ι' H') : ∀ {v : List V} {d : List D}, RDs K ι H v d → RDs K ι' H' v d
  | _, _, .nil => .nil
  | _, _, .cons h r => .cons (h.mono st) (RDs.mono st r)
theorem Cf.step {σ : L2.St} {ρ : Ev} {S S' : Sto} (cf : Cf K ι H σ ρ S) (st : Step ι H ι' H') (wd : Wd K ι' H' S') : Cf K ι' H' σ ρ S' :=
  ⟨wd, cf.len, fun i d h => by
    obtain ⟨v, e, r⟩ := cf.sv i d h
    exact ⟨v, e, r.mono st⟩⟩
/-- the store's things lie as they did -/
theorem Wd.same {S : Sto} (wd : Wd K ι H S) (st : Step ι H ι H') (h : ∀ a, some a ∈ ι.ix → H' a = H a) : Wd K ι H' S := by
  refine ⟨wd.len, wd.nd, fun n o e => ?_, fun a ha => ⟨fun z => (wd.hd a ha).1 (st.there a z), (wd.hd a ha).2⟩⟩
  have q := wd.ob n o e
  generalize hz : ι.ix[n]? = z at q
  cases q with
  | lst e1 r => exact .lst (by rw [h _ (List.mem_of_getElem? hz)]; exact e1) (r.mono st)
  | dic e1 r => exact .dic (by rw [h _ (List.mem_of_getElem? hz)]; exact e1) (r.mono st)
  | gone => exact .gone
theorem Wd.some_of {S : Sto} (wd : Wd K ι H S) {a : Addr} (h : some a ∈ ι.ix) : H a ≠ none := by
  obtain ⟨n, hn, e⟩ := List.mem_iff_getElem.mp h
  have hl := wd.len
  have hS : S[n]? = some (S[n]'(by omega)) := List.getElem?_eq_getElem _
  have q := wd.ob n _ hS
  rw [List.getElem?_eq_getElem hn, e] at q
  generalize S[n] = o at q
  cases q with
  | lst e _ => rw [e]; exact fun z => by cases z
  | dic e _ => rw [e]; exact fun z => by cases z
theorem Wd.fresh {S : Sto} (wd : Wd K ι H S) {p : Addr} (hp : H p = none) : ¬ ι.has p := fun h => by
  rcases h with h | h
  · exact wd.some_of h hp
  · exact (wd.hd p h).1 hp
/-- a new object that nobody keeps -/
theorem Step.new1 {S : Sto} (wd : Wd K ι H S) {p : Addr} (hp : H p = none) (o : HO) : Step ι H ι (upd H p o) :=
  ⟨rfl, Nat.le_refl _, fun _ _ h => .inl h, fun _ h => .inl h, fun a u h _ => by rw [upd_ne (ne_of_none h hp)]; exact h, fun a h => by
    by_cases e : a = p
    · subst e; exact hp
    · rw [upd_ne e] at h; exact h⟩
theorem Wd.new1 {S : Sto} (wd : Wd K ι H S) {p : Addr} (hp : H p = none) (o : HO) : Wd K ι (upd H p o) S :=
  wd.same (Step.new1 wd hp o) fun a ha => by
    have := wd.some_of ha
    refine upd_ne fun e => this (by rw [e]; exact hp)
mutual
/-- what a value is hangs on which things are excepted alone -/
theorem RP.has (k : ∀ a, ι'.has a → ι.has a) : ∀ {v : V} {x : P}, RP K ι H v x → RP K ι' H v x
  | _, _, .non => .non
  | _, _, .bl b => .bl b
  | _, _, .int i => .int i
  | _, _, .str s => .str s
  | _, _, .tup h r => .tup (h.elim (fun h => .inl ⟨h.1, fun q => h.2 (k _ q)⟩) .inr) (RPs.has k r)
  | _, _, .ro h hn r => .ro h (fun q => hn (k _ q)) (RPs.has k r)
  | _, _, .scr h r => .scr (h.elim (fun h => .inl ⟨h.1, fun q => h.2 (k _ q)⟩) .inr) (RPs.has k r)
  | _, _, .dic h hn r => .dic h (fun q => hn (k _ q)) (RKs.has k r)
theorem RPs.has (k : ∀ a, ι'.has a → ι.has a) : ∀ {v : List V} {x : List P}, RPs K ι H v x → RPs K ι' H v x
  | _, _, .nil => .nil
  | _, _, .cons h r => .cons (RP.has k h) (RPs.has k r)
theorem RKs.has (k : ∀ a, ι'.has a → ι.has a) : ∀ {v : List (Key × V)} {x : List (Key × P)}, RKs K ι H v x → RKs K ι' H v x
  | _, _, .nil => .nil
  | _, _, .cons h r => .cons (RP.has k h) (RKs.has k r)
end
theorem ROb.has (k : ∀ a, ι'.has a → ι.has a) {z : Option (Option Addr)} {o : Ob} (h : ROb K ι H z o) : ROb K ι' H z o := by
  cases h with
  | lst e r => exact .lst e (r.has k)
  | dic e r => exact .dic e (r.has k)
  | gone => exact .gone
theorem hide_has (ι : Lk) (a b : Addr) : ι.has b → (ι.hide a).has b := fun h => h.elim .inl fun q => .inr (List.mem_cons_of_mem _ q)
theorem has_hide {ι : Lk} {a b : Addr} : (ι.hide a).has b → ι.has b ∨ b = a := fun h => h.elim (fun q => .inl (.inl q)) fun q => (List.mem_cons.mp q).elim .inr fun q => .inl (.inr q)
theorem has_add {ι : Lk} {a b : Addr} : (ι.add a).has b → (ι.hide a).has b := fun h => h.elim (fun q => (List.mem_append.mp q).elim .inl fun q => .inr (by
  have : b = a := by simpa using q
  rw [this]; exact List.mem_cons_self)) fun q => .inr (List.mem_cons_of_mem _ q)
theorem ntNew {p a : Addr} {u : List V} {o : HO} (hp : H p = none) (h : NT H a u) (hn : ¬ ι.has a) : NT (upd H p o) a u ∧ ¬ (ι.hide p).has a := by
  obtain ⟨ob, d, h⟩ := h
  have ne : a ≠ p := ne_of_none h hp
  exact ⟨⟨ob, d, by rw [upd_ne ne]; exact h⟩, fun q => (has_hide q).elim hn ne⟩
theorem rdNew {p a : Addr} {u o : HO} (hp : H p = none) (h : Rd H a u) (hn : ¬ ι.has a) : Rd (upd H p o) a u ∧ ¬ (ι.hide p).has a := by
  have ne : a ≠ p := by
    rcases h with h | ⟨o, h⟩ <;> exact ne_of_none h hp
  refine ⟨?_, fun q => (has_hide q).elim hn ne⟩
  unfold Rd
  rw [upd_ne ne]
  exact h
mutual
/-- a value that stands ahead of a new thing isn't it -/
theorem RP.hideNew {S : Sto} (wd : Wd K ι H S) {p : Addr} (hp : H p = none) {o : HO} : ∀ {v : V} {x : P}, RP K ι H v x → RP K (ι.hide p) (upd H p o) v x
  | _, _, .non => .non
  | _, _, .bl b => .bl b
  | _, _, .int i => .int i
  | _, _, .str s => .str s
  | _, _, .tup h r => .tup (h.elim (fun h => .inl (ntNew hp h.1 h.2)) .inr) (RPs.hideNew wd hp r)
  | _, _, .ro h hn r => .ro (rdNew (o := o) hp h hn).1 (rdNew (o := o) hp h hn).2 (RPs.hideNew wd hp r)
  | _, _, .scr h r => .scr (h.elim (fun h => .inl (rdNew hp h.1 h.2)) .inr) (RPs.hideNew wd hp r)
  | _, _, .dic h hn r => .dic (rdNew (o := o) hp h hn).1 (rdNew (o := o) hp h hn).2 (RKs.hideNew wd hp r)
theorem RPs.hideNew {S : Sto} (wd : Wd K ι H S) {p : Addr} (hp : H p = none) {o : HO} : ∀ {v : List V} {x : List P}, RPs K ι H v x → RPs K (ι.hide p) (upd H p o) v x
  | _, _, .nil => .nil
  | _, _, .cons h r => .cons (RP.hideNew wd hp h) (RPs.hideNew wd hp r)
theorem RKs.hideNew {S : Sto} (wd : Wd K ι H S) {p : Addr} (hp : H p = none) {o : HO} : ∀ {v : List (Key × V)} {x : List (Key × P)}, RKs K ι H v x → RKs K (ι.hide p) (upd H p o) v x
  | _, _, .nil => .nil
  | _, _, .cons h r => .cons (RP.hideNew wd hp h) (RKs.hideNew wd hp r)
end
/-- what was being made stands now -/
theorem Wd.unhide {S : Sto} {a : Addr} (wd : Wd K (ι.hide a) H S) : Wd K ι H S :=
  ⟨wd.len, wd.nd, fun n o e => (wd.ob n o e).has (hide_has ι a), fun b hb => wd.hd b (List.mem_cons_of_mem _ hb)⟩
/-- a new thing is being made -/
theorem Wd.hidden {S : Sto} (wd : Wd K ι H S) {p : Addr} (hp : H p = none) (o : HO) : Wd K (ι.hide p) (upd H p o) S := by
  have w1 := wd.new1 hp o
  have st := Step.new1 wd hp o
  refine ⟨wd.len, wd.nd, fun n ob e => ?_, fun b hb => ?_⟩
  · have q := wd.ob n ob e
    generalize hz : ι.ix[n]? = z at q
    have ne : ∀ {a : Addr}, z = some (some a) → a ≠ p := fun hza e => by
      subst hza
      have := wd.some_of (List.mem_of_getElem? hz)
      rw [e] at this; exact this hp
    show ROb K (ι.hide p) (upd H p o) ι.ix[n]? ob
    rw [hz]
    cases q with
    | lst e1 r => exact .lst (by rw [upd_ne (ne rfl)]; exact e1) (r.hideNew wd hp)
    | dic e1 r => exact .dic (by rw [upd_ne (ne rfl)]; exact e1) (r.hideNew wd hp)
    | gone => exact .gone
  · rcases List.mem_cons.mp hb with e | hb
    · subst e
      exact ⟨(by rw [upd_same]; intro z; cases z), (fun q => wd.some_of q hp)⟩
    · have := wd.hd b hb
      refine ⟨?_, this.2⟩
      by_cases e : b = p
      · rw [e] at this; exact absurd hp this.1
      · rw [upd_ne e]; exact this.1
end
end Cw
set_option Elab.async false
set_option linter.all false
set_option maxRecDepth 100000
set_option maxHeartbeats 4000000
/-! Cw2: readings by functions; expressions. -/
namespace Cw
open PySem PySem.Spec PyProof.Rows L2

/-! ### readings -/
abbrev CE := Ev → Sto → R D
abbrev CT := Ev → Sto → R Bool
abbrev CA := Ev → Sto → R (List D)
abbrev CN := Ev → Sto → R (List P)
section
variable (K : PySem.W.Frag)
def PostE (ι : Lk) (H : Hp) (r : R D) (Q : VK) : Prop := ∃ d S', r = .ok d S' ∧ ∀ v ι' H', Step ι H ι' H' → Wd K ι' H' S' → RD K ι' H' v d → Q v H'
def PostT (ι : Lk) (H : Hp) (r : R Bool) (Q : Bool → Hp → Prop) : Prop := ∃ b S', r = .ok b S' ∧ ∀ ι' H', Step ι H ι' H' → Wd K ι' H' S' → Q b H'
def PostA (ι : Lk) (H : Hp) (r : R (List D)) (Q : List V → Hp → Prop) : Prop := ∃ ds S', r = .ok ds S' ∧ ∀ vs ι' H', Step ι H ι' H' → Wd K ι' H' S' → RDs K ι' H' vs ds → Q vs H'
/-- a new list that nobody keeps yet -/
def PostN (ι : Lk) (H : Hp) (r : R (List P)) (Q : VK) : Prop := ∃ xs S', r = .ok xs S' ∧ ∀ a vs ι' H', Step ι H ι' H' → Wd K (ι'.hide a) H' S' → H a = none → ¬ ι'.has a → H' a = some (.lst vs) → RPs K (ι'.hide a) H' vs xs → Q (.ref a) H'
def RdE (c : CE) : TE := fun σ H Q => ∃ ι ρ S, Cf K ι H σ ρ S ∧ PostE K ι H (c ρ S) Q
def RdT (c : CT) : TT := fun σ H Q => ∃ ι ρ S, Cf K ι H σ ρ S ∧ PostT K ι H (c ρ S) Q
def RdA (c : CA) : TA := fun σ H Q => ∃ ι ρ S, Cf K ι H σ ρ S ∧ PostA K ι H (c ρ S) Q
def RdN (c : CN) : TE := fun σ H Q => ∃ ι ρ S, Cf K ι H σ ρ S ∧ PostN K ι H (c ρ S) Q
end
theorem _root_.L2.PE.weak {X : Cx} {e : Expr} {t t' : TE} (h : PE X e t) (k : ∀ σ H Q, t' σ H Q → t σ H Q) : PE X e t' := ⟨fun pins s σ H Q I q => h.run pins s σ H Q I (k σ H Q q)⟩
theorem _root_.L2.PT.weak {X : Cx} {e : Expr} {t t' : TT} (h : PT X e t) (k : ∀ σ H Q, t' σ H Q → t σ H Q) : PT X e t' := ⟨fun pins s σ H Q I q => h.run pins s σ H Q I (k σ H Q q)⟩
theorem _root_.L2.PW.weak {X : Cx} {e : Expr} {t t' : TT} (h : PW X e t) (k : ∀ σ H Q, t' σ H Q → t σ H Q) : PW X e t' := ⟨fun w pins s σ H Q I q => h.run w pins s σ H Q I (k σ H Q q)⟩
theorem _root_.L2.PA.weak {X : Cx} {e : List Expr} {t t' : TA} (h : PA X e t) (k : ∀ σ H Q, t' σ H Q → t σ H Q) : PA X e t' := ⟨fun p pins s σ H Q I q => h.run p pins s σ H Q I (k σ H Q q)⟩
theorem _root_.L2.PE.orr {X : Cx} {e : Expr} {t t' : TE} (h : PE X e t) (h' : PE X e t') : PE X e (fun σ H Q => t σ H Q ∨ t' σ H Q) := ⟨fun pins s σ H Q I q => q.elim (h.run pins s σ H Q I) (h'.run pins s σ H Q I)⟩
section
variable {K : PySem.W.Frag} {ι : Lk} {H : Hp} {σ : L2.St} {ρ : Ev} {S : Sto}
theorem RdE.run {c : CE} {d : D} {S1 : Sto} {Q : VK} (cf : Cf K ι H σ ρ S) (e : c ρ S = .ok d S1) (k : ∀ v ι1 H1, Step ι H ι1 H1 → Cf K ι1 H1 σ ρ S1 → RD K ι1 H1 v d → Q v H1) : RdE K c σ H Q :=
  ⟨ι, ρ, S, cf, d, S1, e, fun v ι' H' st wd r => k v ι' H' st (cf.step st wd) r⟩
theorem RdT.run {c : CT} {d : Bool} {S1 : Sto} {Q : Bool → Hp → Prop} (cf : Cf K ι H σ ρ S) (e : c ρ S = .ok d S1) (k : ∀ ι1 H1, Step ι H ι1 H1 → Cf K ι1 H1 σ ρ S1 → Q d H1) : RdT K c σ H Q :=
  ⟨ι, ρ, S, cf, d, S1, e, fun ι' H' st wd => k ι' H' st (cf.step st wd)⟩
theorem RdA.run {c : CA} {d : List D} {S1 : Sto} {Q : List V → Hp → Prop} (cf : Cf K ι H σ ρ S) (e : c ρ S = .ok d S1) (k : ∀ v ι1 H1, Step ι H ι1 H1 → Cf K ι1 H1 σ ρ S1 → RDs K ι1 H1 v d → Q v H1) : RdA K c σ H Q :=
  ⟨ι, ρ, S, cf, d, S1, e, fun v ι' H' st wd r => k v ι' H' st (cf.step st wd) r⟩
end

/-! ### what things are, by their data -/
/-- a list's items: a list of the store, or one that stands -/
def seqL : D → Sto → Option (List P)
  | .p (.ro xs), _ => some xs
  | .ref n, S => match S[n]? with
    | some (.lst xs) => some xs
    | _ => none
  | _, _ => none
/-- .. or the script -/
def seqA : D → Sto → Option (List P)
  | .p (.scr xs), _ => some xs
  | d, S => seqL d S
theorem seqL_ref {n : Nat} {S : Sto} {xs : List P} (e : seqL (.ref n) S = some xs) : S[n]? = some (.lst xs) := by
  simp only [seqL] at e
  split at e
  · rename_i ys hy
    cases e
    exact hy
  · cases e
def dicL : D → Sto → Option (List (Key × P))
  | .p (.dic xs), _ => some xs
  | .ref n, S => match S[n]? with
    | some (.dic xs) => some xs
    | _ => none
  | _, _ => none
theorem dicL_ref {n : Nat} {S : Sto} {xs : List (Key × P)} (e : dicL (.ref n) S = some xs) : S[n]? = some (.dic xs) := by
  simp only [dicL] at e
  split at e
  · rename_i ys hy
    cases e
    exact hy
  · cases e
section
variable {K : PySem.W.Frag} {ι : Lk} {H : Hp} {S : Sto}
theorem Wd.lst (wd : Wd K ι H S) {v : V} {n : Nat} {xs : List P} (r : RD K ι H v (.ref n)) (e : S[n]? = some (.lst xs)) : ∃ a vs, v = .ref a ∧ ι.ix[n]? = some (some a) ∧ H a = some (.lst vs) ∧ RPs K ι H vs xs := by
  have q := wd.ob n _ e
  cases r with
  | ref e1 hv =>
    rw [e1] at q
    cases q with
    | lst h r => exact ⟨_, _, hv _ rfl, e1, h, r⟩
theorem Wd.dict (wd : Wd K ι H S) {v : V} {n : Nat} {xs : List (Key × P)} (r : RD K ι H v (.ref n)) (e : S[n]? = some (.dic xs)) : ∃ a vs, v = .ref a ∧ ι.ix[n]? = some (some a) ∧ H a = some (.dK vs) ∧ RKs K ι H vs xs := by
  have q := wd.ob n _ e
  cases r with
  | ref e1 hv =>
    rw [e1] at q
    cases q with
    | dic h r => exact ⟨_, _, hv _ rfl, e1, h, r⟩
/-- a list that is read -/
theorem Wd.seq (wd : Wd K ι H S) {v : V} {d : D} {xs : List P} (r : RD K ι H v d) (e : seqL d S = some xs) : ∃ a vs, v = .ref a ∧ Rd H a (.lst vs) ∧ RPs K ι H vs xs := by
  cases d with
  | p x =>
    cases x with
    | ro ys =>
      cases e
      cases r with
      | p r =>
        cases r with
        | ro h _ r => exact ⟨_, _, rfl, h, r⟩
    | _ => cases e
  | ref n =>
    have hy := seqL_ref e
    obtain ⟨a, vs, rfl, _, h, q⟩ := wd.lst r hy
    exact ⟨a, vs, rfl, .of h, q⟩
theorem Wd.seqA (wd : Wd K ι H S) {v : V} {d : D} {xs : List P} (r : RD K ι H v d) (e : seqA d S = some xs) : ∃ a vs, v = .ref a ∧ SqL K H a vs ∧ RPs K ι H vs xs := by
  unfold Cw.seqA at e
  split at e
  · cases e
    cases r with
    | p r =>
      cases r with
      | scr h r => exact ⟨_, _, rfl, h.sq, r⟩
  · obtain ⟨a, vs, e1, h, q⟩ := wd.seq r e
    exact ⟨a, vs, e1, .inl h, q⟩
theorem dgK {H : Hp} {a : Addr} {kvs : List (Key × V)} {k : Key} (e : Rd H a (.dK kvs)) : DGet H a (kV k) (valV kvs k) := .inl ⟨kvs, k, e, rfl, rfl⟩
theorem Wd.dct (wd : Wd K ι H S) {v : V} {d : D} {xs : List (Key × P)} (r : RD K ι H v d) (e : dicL d S = some xs) : ∃ a vs, v = .ref a ∧ Rd H a (.dK vs) ∧ RKs K ι H vs xs := by
  cases d with
  | p x =>
    cases x with
    | dic ys =>
      cases e
      cases r with
      | p r =>
        cases r with
        | dic h _ r => exact ⟨_, _, rfl, h, r⟩
    | _ => cases e
  | ref n =>
    have hy := dicL_ref e
    obtain ⟨a, vs, rfl, _, h, q⟩ := wd.dict r hy
    exact ⟨a, vs, rfl, .of h, q⟩
end
section
variable {K : PySem.W.Frag} {ι : Lk} {H : Hp}
theorem RPs.length : ∀ {vs : List V} {xs : List P}, RPs K ι H vs xs → vs.length = xs.length
  | _, _, .nil => rfl
  | _, _, .cons _ r => congrArg (· + 1) r.length
theorem RPs.get : ∀ {vs : List V} {xs : List P} {i : Nat} {x : P}, RPs K ι H vs xs → xs[i]? = some x → ∃ v, vs[i]? = some v ∧ RP K ι H v x
  | _, _, _, _, .nil, e => by simp at e
  | _, _, 0, _, .cons r _, e => by simp at e; subst e; exact ⟨_, rfl, r⟩
  | _, _, i + 1, x, .cons _ t, e => by
    obtain ⟨u, h1, h2⟩ := RPs.get (i := i) (x := x) t (by simpa using e)
    exact ⟨u, by simpa using h1, h2⟩
theorem RPs.app : ∀ {vs ws : List V} {xs ys : List P}, RPs K ι H vs xs → RPs K ι H ws ys → RPs K ι H (vs ++ ws) (xs ++ ys)
  | _, _, _, _, .nil, s => s
  | _, _, _, _, .cons r t, s => .cons r (t.app s)
theorem RPs.drop : ∀ {vs : List V} {xs : List P} (n : Nat), RPs K ι H vs xs → RPs K ι H (vs.drop n) (xs.drop n)
  | _, _, 0, r => r
  | _, _, _ + 1, .nil => .nil
  | _, _, n + 1, .cons _ t => t.drop n
theorem RPs.take : ∀ {vs : List V} {xs : List P} (n : Nat), RPs K ι H vs xs → RPs K ι H (vs.take n) (xs.take n)
  | _, _, 0, _ => .nil
  | _, _, _ + 1, .nil => .nil
  | _, _, n + 1, .cons r t => .cons r (t.take n)
theorem RPs.rep : ∀ {vs : List V} {xs : List P}, RPs K ι H vs xs → ∀ k : Nat, RPs K ι H (List.replicate k vs).flatten (List.replicate k xs).flatten
  | _, _, _, 0 => .nil
  | _, _, r, k + 1 => by
    rw [List.replicate_succ, List.replicate_succ, List.flatten_cons, List.flatten_cons]
    exact r.app (r.rep k)
theorem RPs.set {v : V} {x : P} (r : RP K ι H v x) : ∀ {vs : List V} {xs : List P} (i : Nat), RPs K ι H vs xs → RPs K ι H (vs.set i v) (xs.set i x)
  | _, _, _, .nil => .nil
  | _, _, 0, .cons _ t => .cons r t
  | _, _, i + 1, .cons q t => .cons q (RPs.set r i t)
theorem RPs.erase : ∀ {vs : List V} {xs : List P} (i : Nat), RPs K ι H vs xs → RPs K ι H (vs.eraseIdx i) (xs.eraseIdx i)
  | _, _, _, .nil => .nil
  | _, _, 0, .cons _ t => t
  | _, _, i + 1, .cons q t => .cons q (RPs.erase i t)
theorem RPs.rev {vs : List V} {xs : List P} (r : RPs K ι H vs xs) : RPs K ι H vs.reverse xs.reverse := by
  induction r using RPs.rec (motive_1 := fun _ _ _ => True) (motive_3 := fun _ _ _ => True) with
  | nil => exact .nil
  | cons r _ _ ih =>
    rw [List.reverse_cons, List.reverse_cons]
    exact ih.app (.cons r .nil)
  | _ => trivial
end

/-! ### names and constants -/
section
variable {X : Cx}
def cVar (i : Nat) : CE := fun ρ S => match ρ[i]? with
  | some (some d) => .ok d S
  | _ => .no
def cP (x : P) : CE := fun _ S => .ok (.p x) S
theorem re_var {i : Nat} {e : Expr} (h : PE X e (tVar i)) : PE X e (RdE X.K (cVar i)) := h.weak fun σ H Q ⟨ι, ρ, S, cf, d, S', e, k⟩ => by
  unfold cVar at e
  split at e
  · rename_i d' hd
    cases e
    obtain ⟨v, hv, r⟩ := cf.sv i _ hd
    exact ⟨v, hv, k v ι H (.refl _ _) cf.wd r⟩
  · cases e
theorem re_c {e : Expr} {v : V} {x : P} (h : PE X e (tC v)) (r : ∀ ι H, RP X.K ι H v x) : PE X e (RdE X.K (cP x)) := h.weak fun σ H Q ⟨ι, ρ, S, cf, d, S', e, k⟩ => by
  cases e
  exact k v ι H (.refl _ _) cf.wd (.p (r ι H))
theorem re_int {i j pos} : PE X (.Constant (.int i) j pos) (RdE X.K (cP (.int i))) := re_c pe_int fun _ _ => .int i
theorem re_bl {i j pos} : PE X (.Constant (.bool i) j pos) (RdE X.K (cP (.bl i))) := re_c pe_bl fun _ _ => .bl i
theorem re_non {j pos} : PE X (.Constant .none j pos) (RdE X.K (cP .non)) := re_c pe_non fun _ _ => .non
theorem re_str {i j pos} (h : PyData.strOk i = true := by decide +kernel) : PE X (.Constant (.str i) j pos) (RdE X.K (cP (.str i))) := re_c pe_str fun _ _ => .str h
end

/-! ### two places, by what the values are -/
/-- what a rule on values gives, where the data says so -/
def Lk2 (K : PySem.W.Frag) (r : R2) (g : D → D → Sto → R D) (x y : D) (S : Sto) : Prop :=
  ∀ (ι : Lk) (H : Hp) (v w : V) (d : D) (S' : Sto) (Q : VK), Wd K ι H S → RD K ι H v x → RD K ι H w y → g x y S = .ok d S' → (∀ z ι' H', Step ι H ι' H' → Wd K ι' H' S' → RD K ι' H' z d → Q z H') → r v w H Q
def c2 (g : D → D → Sto → R D) (ca cb : CE) : CE := fun ρ S => (ca ρ S).bind fun x S1 => (cb ρ S1).bind fun y S2 => g x y S2
/-- the ways of an expression of two parts -/
def Ways2 (X : Cx) (e a b : Expr) (g : D → D → Sto → R D) : Prop :=
  ∀ x y S d S', g x y S = .ok d S' → ∃ r, (∀ ta tb, PE X a ta → PE X b tb → PE X e (tOp r ta tb)) ∧ Lk2 X.K r g x y S
theorem re2 {X : Cx} {e a b : Expr} {g : D → D → Sto → R D} {ca cb : CE} (w : Ways2 X e a b g) (ha : PE X a (RdE X.K ca)) (hb : PE X b (RdE X.K cb)) : PE X e (RdE X.K (c2 g ca cb)) := by
  refine ⟨fun pins s σ H Q I ⟨ι, ρ, S, cf, d, S', e0, k⟩ => ?_⟩
  obtain ⟨x, S1, e1, e2⟩ := bind_ok e0
  obtain ⟨y, S2, e3, e4⟩ := bind_ok e2
  obtain ⟨r, he, hl⟩ := w x y S2 d S' e4
  refine (he _ _ ha hb).run pins s σ H Q I ?_
  refine RdE.run cf e1 fun v ι1 H1 st1 cf1 r1 => RdE.run cf1 e3 fun u ι2 H2 st2 cf2 r2 => ?_
  exact hl ι2 H2 v u d S' Q cf2.wd (r1.mono st2) r2 e4 fun z ι' H' st wd rz => k z ι' H' ((st1.trans st2).trans st) wd rz
/-- the same as a test -/
def bT (r : R D) : R Bool := r.bind fun d S => match d with
  | .p (.bl b) => .ok b S
  | _ => .no
theorem bT_ok {r : R D} {b : Bool} {S : Sto} (h : bT r = .ok b S) : r = .ok (.p (.bl b)) S := by
  obtain ⟨d, S1, e1, e2⟩ := bind_ok h
  cases d with
  | ref n => cases e2
  | p x =>
    cases x with
    | bl k => cases e2; exact e1
    | _ => cases e2
def cT (c : CE) : CT := fun ρ S => bT (c ρ S)
def Ways2T (X : Cx) (e a b : Expr) (g : D → D → Sto → R D) : Prop :=
  ∀ x y S d S', g x y S = .ok d S' → ∃ r, (∀ ta tb, PE X a ta → PE X b tb → PT X e (tTest (tOp r ta tb))) ∧ Lk2 X.K r g x y S
theorem rt2 {X : Cx} {e a b : Expr} {g : D → D → Sto → R D} {ca cb : CE} (w : Ways2T X e a b g) (ha : PE X a (RdE X.K ca)) (hb : PE X b (RdE X.K cb)) : PT X e (RdT X.K (cT (c2 g ca cb))) := by
  refine ⟨fun pins s σ H Q I ⟨ι, ρ, S, cf, d, S', e0, k⟩ => ?_⟩
  obtain ⟨x, S1, e1, e2⟩ := bind_ok (bT_ok e0)
  obtain ⟨y, S2, e3, e4⟩ := bind_ok e2
  obtain ⟨r, he, hl⟩ := w x y S2 _ S' e4
  refine (he _ _ ha hb).run pins s σ H Q I ?_
  show RdE X.K ca σ H _
  refine RdE.run cf e1 fun v ι1 H1 st1 cf1 r1 => RdE.run cf1 e3 fun u ι2 H2 st2 cf2 r2 => ?_
  refine hl ι2 H2 v u _ S' _ cf2.wd (r1.mono st2) r2 e4 fun z ι' H' st wd rz => ?_
  cases rz with
  | p rz =>
    cases rz
    exact ⟨_, rfl, k ι' H' ((st1.trans st2).trans st) wd⟩
/-- compares: both -/
theorem cmp_ways {X : Cx} {op : CmpOp} {a b : Expr} {pos : Pos} {g : D → D → Sto → R D} (hm : behindInMarks op b = false)
    (h : ∀ x y S d S', g x y S = .ok d S' → ∃ r, OpR X (compareOp op) r ∧ Lk2 X.K r g x y S) : Ways2 X (.Compare a [op] [b] pos) a b g ∧ Ways2T X (.Compare a [op] [b] pos) a b g :=
  ⟨fun x y S d S' e => let ⟨r, h1, h2⟩ := h x y S d S' e; ⟨r, fun _ _ ha hb => pe_cmpR h1 ha hb hm, h2⟩,
   fun x y S d S' e => let ⟨r, h1, h2⟩ := h x y S d S' e; ⟨r, fun _ _ ha hb => pt_cmpR h1 ha hb hm, h2⟩⟩
theorem op_ways {X : Cx} {op : Operator} {a b : Expr} {pos : Pos} {g : D → D → Sto → R D}
    (h : ∀ x y S d S', g x y S = .ok d S' → ∃ r, OpR X (binaryOp op) r ∧ Lk2 X.K r g x y S) : Ways2 X (.BinOp a op b pos) a b g :=
  fun x y S d S' e => let ⟨r, h1, h2⟩ := h x y S d S' e; ⟨r, fun _ _ ha hb => pe_op h1 ha hb, h2⟩

/-! #### whole numbers -/
def gInt (C : Int → Int → Prop) [∀ i j, Decidable (C i j)] (f : Int → Int → P) : D → D → Sto → R D
  | .p (.int i), .p (.int j), S => if C i j then .ok (.p (f i j)) S else .no
  | _, _, _ => .no
theorem lk_int {K : PySem.W.Frag} {C : Int → Int → Prop} [∀ i j, Decidable (C i j)] {f : Int → Int → P} {g : Int → Int → V} (hf : ∀ i j ι H, RP K ι H (g i j) (f i j)) (x y : D) (S : Sto) : Lk2 K (rI C g) (gInt C f) x y S := by
  intro ι H v w d S' Q wd r1 r2 e k
  unfold gInt at e
  split at e
  · rename_i i j
    split at e
    · rename_i hc
      cases e
      cases r1 with
      | p r1 =>
        cases r1
        cases r2 with
        | p r2 =>
          cases r2
          exact ⟨i, j, rfl, rfl, hc, k _ ι H (.refl _ _) wd (.p (hf i j ι H))⟩
    · cases e
  · cases e
theorem ways_int {X : Cx} {op : Operator} {a b : Expr} {pos : Pos} {C : Int → Int → Prop} [∀ i j, Decidable (C i j)] {f : Int → Int → Int} (h : OpR X (binaryOp op) (rI C fun i j => .int (f i j))) : Ways2 X (.BinOp a op b pos) a b (gInt C fun i j => .int (f i j)) :=
  op_ways fun x y S _ _ _ => ⟨_, h, lk_int (fun _ _ _ _ => .int _) x y S⟩
instance (i j : Int) : Decidable (CMul i j) := by unfold CMul; infer_instance
instance (i j : Int) : Decidable (CPow i j) := by unfold CPow; infer_instance
instance (i j : Int) : Decidable (CDivW i j) := by unfold CDivW; infer_instance
instance (i j : Int) : Decidable (CMulW i j) := by unfold CMulW; infer_instance
def CYes (_ _ : Int) : Prop := True
instance (i j : Int) : Decidable (CYes i j) := by unfold CYes; infer_instance
def CPos (_ j : Int) : Prop := 0 < j
instance (i j : Int) : Decidable (CPos i j) := by unfold CPos; infer_instance
def CNn (_ j : Int) : Prop := 0 ≤ j
instance (i j : Int) : Decidable (CNn i j) := by unfold CNn; infer_instance
theorem op0 {X : Cx} {f : Value → Value → Sem Value} {g : Int → Int → V} (h : OpR X f (rI0 g)) : OpR X f (rI CYes g) := fun pins s σ H x y v u Q I rx ry ⟨i, j, a, b, _, q⟩ => h pins s σ H x y v u Q I rx ry ⟨i, j, a, b, q⟩
def gSub := gInt CYes fun i j => .int (i - j)
def gMod := gInt CPos fun i j => .int (i % j)
def gDiv := gInt CDivW fun i j => .int (i / j)
def gPow := gInt CPow fun i j => .int (i ^ j.toNat)
def gShl := gInt CPow fun i j => .int (i * 2 ^ j.toNat)
def gShr := gInt CNn fun i j => .int (i / 2 ^ j.toNat)
section
variable {X : Cx} {a b : Expr} {ca cb : CE} {pos : Pos}
theorem re_sub (ha : PE X a (RdE X.K ca)) (hb : PE X b (RdE X.K cb)) : PE X (.BinOp a .Sub b pos) (RdE X.K (c2 gSub ca cb)) := re2 (ways_int (op0 op_sub)) ha hb
theorem re_mod (ha : PE X a (RdE X.K ca)) (hb : PE X b (RdE X.K cb)) : PE X (.BinOp a .Mod b pos) (RdE X.K (c2 gMod ca cb)) := re2 (ways_int (C := CPos) op_mod) ha hb
theorem re_div (ha : PE X a (RdE X.K ca)) (hb : PE X b (RdE X.K cb)) : PE X (.BinOp a .FloorDiv b pos) (RdE X.K (c2 gDiv ca cb)) := re2 (ways_int op_fdivW) ha hb
theorem re_pow (ha : PE X a (RdE X.K ca)) (hb : PE X b (RdE X.K cb)) : PE X (.BinOp a .Pow b pos) (RdE X.K (c2 gPow ca cb)) := re2 (ways_int op_pow) ha hb
theorem re_shl (ha : PE X a (RdE X.K ca)) (hb : PE X b (RdE X.K cb)) : PE X (.BinOp a .LShift b pos) (RdE X.K (c2 gShl ca cb)) := re2 (ways_int op_shl) ha hb
theorem re_shr (ha : PE X a (RdE X.K ca)) (hb : PE X b (RdE X.K cb)) : PE X (.BinOp a .RShift b pos) (RdE X.K (c2 gShr ca cb)) := re2 (ways_int (C := CNn) op_shr) ha hb
end
end Cw
set_option Elab.async false
set_option linter.all false
set_option maxRecDepth 100000
set_option maxHeartbeats 4000000
/-! Cw3: expressions, further. -/
namespace Cw
open PySem PySem.Spec PyProof.Rows L2

section
variable {K : PySem.W.Frag} {ι : Lk} {H : Hp} {S : Sto}
theorem RD.intD {v : V} {i : Int} (r : RD K ι H v (.p (.int i))) : v = .int i := by cases r with | p r => cases r; rfl
theorem RD.strD {v : V} {i : Str} (r : RD K ι H v (.p (.str i))) : v = .str i ∧ PyData.strOk i = true := by cases r with | p r => cases r; exact ⟨rfl, by assumption⟩
theorem RD.blD {v : V} {i : Bool} (r : RD K ι H v (.p (.bl i))) : v = .bl i := by cases r with | p r => cases r; rfl
theorem RD.nonD {v : V} (r : RD K ι H v (.p .non)) : v = .non := by cases r with | p r => cases r; rfl
theorem RD.tupD {v : V} {xs : List P} (r : RD K ι H v (.p (.tup xs))) : ∃ a vs, v = .ref a ∧ TupAt K ι H a vs ∧ RPs K ι H vs xs := by cases r with | p r => cases r; exact ⟨_, _, rfl, by assumption, by assumption⟩
theorem TupAt.new {a : Addr} {vs : List V} {o : Obj} (wd : Wd K ι H S) (h : H a = none) (hd : o.dict = none) : TupAt K ι (upd H a (.frz o (.tup vs))) a vs := .inl ⟨⟨o, hd, upd_same⟩, wd.fresh h⟩
/-- a new tuple, a new list that stands -/
theorem RD.newTup {a : Addr} {vs : List V} {xs : List P} {o : Obj} (wd : Wd K ι H S) (h : H a = none) (hd : o.dict = none) (r : RPs K ι H vs xs) : RD K ι (upd H a (.frz o (.tup vs))) (.ref a) (.p (.tup xs)) := .p (.tup (TupAt.new wd h hd) (r.mono (Step.new1 wd h _)))
theorem RD.newRo {a : Addr} {vs : List V} {xs : List P} (wd : Wd K ι H S) (h : H a = none) (r : RPs K ι H vs xs) : RD K ι (upd H a (.lst vs)) (.ref a) (.p (.ro xs)) := .p (.ro (.inl upd_same) (wd.fresh h) (r.mono (Step.new1 wd h _)))
end
theorem strOk_app {i j : Str} (h1 : PyData.strOk i = true) (h2 : PyData.strOk j = true) : PyData.strOk (i ++ j) = true := by
  show (i.cps ++ j.cps).all _ = true
  rw [Array.all_append]
  simp only [PyData.strOk] at h1 h2
  rw [h1, h2]; rfl
/-! ### adding -/
/-- list + list, lists that stand too -/
def rCatR : R2 := fun x y H Q => ∃ l b xs zs, x = .ref l ∧ y = .ref b ∧ Rd H l (.lst xs) ∧ Rd H b (.lst zs) ∧ xs.length + zs.length ≤ sizeLine ∧ ∀ p, H p = none → Q (.ref p) (upd H p (.lst (xs ++ zs)))
theorem lstR {X : Cx} {pins : List (Addr × Obj)} {σ : L2.St} {H : Hp} {s : Shared} {l : Addr} {xs : List V} (I : Inv X pins σ H s) (hH : Rd H l (.lst xs)) : xs.length ≤ sizeLine ∧ ∃ (its : List Value) (n : Nat), Vals xs its ∧ xs.length = its.length ∧ s.heap.get? l = some { cls := .type "list", data := .seq its.toArray n } := by
  obtain ⟨z, its, n, r, e⟩ := hH.ok I.hok
  exact ⟨z, its, n, r, r.length, e⟩
theorem op_catR {X : Cx} : OpR X (binaryOp .Add) rCatR := by
  intro pins s σ H x y v u Q I rx ry h
  obtain ⟨l, b, xs, zs, rfl, rfl, hH, hB, hz, q⟩ := h
  cases rx
  cases ry
  obtain ⟨z, its, n, r, hl, e⟩ := lstR I hH
  obtain ⟨z2, its2, n2, r2, hl2, e2⟩ := lstR I hB
  refine PySem.P.add_list e e2 ?_ (by rw [List.size_toArray, List.size_toArray]; omega)
  have ea : its.toArray ++ its2.toArray = (its ++ its2).toArray := by simp
  rw [ea]
  exact ⟨.ref _, _, L2.Inv.lnew (t' := s.toks) I (r.append r2) (by rw [List.length_append]; omega), rfl, q _ (L2.Inv.fresh I)⟩
def gCat (xs ys : Option (List P)) (S : Sto) : R D := match xs, ys with
  | some xs, some ys => if xs.length + ys.length ≤ sizeLine then .ok (.p (.ro (xs ++ ys))) S else .no
  | _, _ => .no
def gAdd : D → D → Sto → R D
  | .p (.int i), .p (.int j), S => .ok (.p (.int (i + j))) S
  | .p (.str i), .p (.str j), S => if i.length + j.length ≤ sizeLine then .ok (.p (.str (i ++ j))) S else .no
  | .p (.tup xs), .p (.tup ys), S => if xs.length + ys.length ≤ sizeLine then .ok (.p (.tup (xs ++ ys))) S else .no
  | x, y, S => gCat (seqL x S) (seqL y S) S
theorem add_ways {X : Cx} (x y : D) (S : Sto) (d : D) (S' : Sto) (e : gAdd x y S = .ok d S') : ∃ r, OpR X (binaryOp .Add) r ∧ Lk2 X.K r gAdd x y S := by
  unfold gAdd at e
  split at e
  · refine ⟨_, op_add, fun ι H v w d S' Q wd r1 r2 e k => ?_⟩
    cases e
    cases r1.intD; cases r2.intD
    exact ⟨_, _, rfl, rfl, k _ ι H (.refl _ _) wd (.p (.int _))⟩
  · refine ⟨_, op_add_str, fun ι H v w d S' Q wd r1 r2 e k => ?_⟩
    simp only [gAdd] at e
    split at e
    · rename_i hc
      cases e
      obtain ⟨rfl, o1⟩ := r1.strD
      obtain ⟨rfl, o2⟩ := r2.strD
      exact ⟨_, _, rfl, rfl, hc, k _ ι H (.refl _ _) wd (.p (.str (strOk_app o1 o2)))⟩
    · cases e
  · refine ⟨_, op_catN, fun ι H v w d S' Q wd r1 r2 e k => ?_⟩
    simp only [gAdd] at e
    split at e
    · rename_i hc
      cases e
      obtain ⟨a, vs, rfl, h1, q1⟩ := r1.tupD
      obtain ⟨b, ws, rfl, h2, q2⟩ := r2.tupD
      refine ⟨a, b, vs, ws, rfl, rfl, h1.sq, h2.sq, by rw [q1.length, q2.length]; exact hc, fun z => ?_, fun _ z => ?_, fun _ _ p o hp hd => ?_⟩
      · subst z
        refine k _ ι H (.refl _ _) wd (.p (.tup h2 ?_))
        exact q1.app q2
      · subst z
        refine k _ ι H (.refl _ _) wd (.p (.tup h1 ?_))
        have := q1.app q2
        rwa [List.append_nil] at this
      · exact k _ ι _ (Step.new1 wd hp _) (wd.new1 hp _) (RD.newTup wd hp hd (q1.app q2))
    · cases e
  · rename_i n1 n2 n3
    refine ⟨_, op_catR, fun ι H v w d S' Q wd r1 r2 e k => ?_⟩
    rw [gAdd] at e
    · unfold gCat at e
      split at e
      · rename_i xs ys h1 h2
        split at e
        · rename_i hc
          cases e
          obtain ⟨a, vs, rfl, g1, q1⟩ := wd.seq r1 h1
          obtain ⟨b, ws, rfl, g2, q2⟩ := wd.seq r2 h2
          exact ⟨a, b, vs, ws, rfl, rfl, g1, g2, by rw [q1.length, q2.length]; exact hc, fun p hp => k _ ι _ (Step.new1 wd hp _) (wd.new1 hp _) (RD.newRo wd hp (q1.app q2))⟩
        · cases e
      · cases e
    all_goals assumption
section
variable {X : Cx} {a b : Expr} {ca cb : CE} {pos : Pos}
theorem re_add (ha : PE X a (RdE X.K ca)) (hb : PE X b (RdE X.K cb)) : PE X (.BinOp a .Add b pos) (RdE X.K (c2 gAdd ca cb)) := re2 (op_ways add_ways) ha hb
end

/-! ### times -/
def rRepR : R2 := fun x y H Q => ∃ l k xs, x = .ref l ∧ y = .int k ∧ H l = some (.lst xs) ∧ -(2 ^ 63) ≤ k ∧ k < 2 ^ 63 ∧ xs.length * k.toNat ≤ sizeLine ∧
  ∀ p, H p = none → Q (.ref p) (upd H p (.lst (List.replicate k.toNat xs).flatten))
def CMulA (i j : Int) : Prop := CMul i j ∨ CMulW i j
instance (i j : Int) : Decidable (CMulA i j) := by unfold CMulA; infer_instance
theorem op_mulA {X : Cx} : OpR X (binaryOp .Mult) (rI CMulA fun i j => .int (i * j)) := fun pins s σ H x y v u Q I rx ry ⟨i, j, e1, e2, hc, q⟩ => by
  rcases hc with hc | hc
  · exact op_mul pins s σ H x y v u Q I rx ry ⟨i, j, e1, e2, hc, q⟩
  · exact op_mulW pins s σ H x y v u Q I rx ry ⟨i, j, e1, e2, hc, q⟩
def gMul := gInt CMulA fun i j => .int (i * j)
theorem re_mul {X : Cx} {a b : Expr} {ca cb : CE} {pos : Pos} (ha : PE X a (RdE X.K ca)) (hb : PE X b (RdE X.K cb)) : PE X (.BinOp a .Mult b pos) (RdE X.K (c2 gMul ca cb)) := re2 (ways_int op_mulA) ha hb

/-! ### == of data -/
mutual
def P.data : P → PyData
  | .non => .none
  | .bl b => .bool b
  | .int i => .int i
  | .str s => .str s
  | .tup xs => .tuple (P.datas xs)
  | .ro xs => .list (P.datas xs)
  | .scr xs => .list (P.datas xs)
  | .dic _ => .dict []
def P.datas : List P → List PyData
  | [] => []
  | x :: xs => x.data :: P.datas xs
end
mutual
/-- how deep; a dict is beyond -/
def P.dep : P → Nat
  | .tup xs => P.deps xs + 1
  | .ro xs => P.deps xs + 1
  | .scr xs => P.deps xs + 1
  | .dic _ => 1000
  | _ => 0
def P.deps : List P → Nat
  | [] => 0
  | x :: xs => max x.dep (P.deps xs)
end
mutual
theorem dep_data : ∀ x : P, x.dep ≤ 64 → x.data.depth = x.dep
  | .non, _ => rfl
  | .bl _, _ => rfl
  | .int _, _ => rfl
  | .str _, _ => rfl
  | .tup xs, h => by
    simp only [P.dep] at h ⊢
    rw [P.data, PyData.depth, dep_datas xs (by omega)]
  | .ro xs, h => by
    simp only [P.dep] at h ⊢
    rw [P.data, PyData.depth, dep_datas xs (by omega)]
  | .scr xs, h => by
    simp only [P.dep] at h ⊢
    rw [P.data, PyData.depth, dep_datas xs (by omega)]
  | .dic _, h => by simp only [P.dep] at h; omega
theorem dep_datas : ∀ xs : List P, P.deps xs ≤ 64 → PyData.depthAll (P.datas xs) = P.deps xs
  | [], _ => rfl
  | x :: xs, h => by
    simp only [P.deps] at h ⊢
    rw [P.datas, PyData.depthAll, dep_data x (by omega), dep_datas xs (by omega)]
end
section
variable {K : PySem.W.Frag} {ι : Lk} {H : Hp}
mutual
theorem RP.dp : ∀ {v : V} {x : P}, RP K ι H v x → x.dep ≤ 64 → Dp K H v x.data ∧ x.data.canLay0 = true
  | _, _, .non, _ => ⟨.non, rfl⟩
  | _, _, .bl b, _ => ⟨.bl b, rfl⟩
  | _, _, .int i, _ => ⟨.int i, rfl⟩
  | _, _, .str h, _ => ⟨.str _, by rw [P.data, PyData.canLay0]; exact h⟩
  | _, _, .tup h r, hd => by
    simp only [P.dep] at hd
    have ⟨a, b⟩ := RPs.dp r (by omega)
    exact ⟨.tup h.sq a, by rw [P.data, PyData.canLay0]; exact b⟩
  | _, _, .ro h hn r, hd => by
    simp only [P.dep] at hd
    have ⟨a, b⟩ := RPs.dp r (by omega)
    exact ⟨.lst (.inl h) a, by rw [P.data, PyData.canLay0]; exact b⟩
  | _, _, .scr h r, hd => by
    simp only [P.dep] at hd
    have ⟨a, b⟩ := RPs.dp r (by omega)
    exact ⟨.lst h.sq a, by rw [P.data, PyData.canLay0]; exact b⟩
  | _, _, .dic _ _ _, hd => by simp only [P.dep] at hd; omega
theorem RPs.dp : ∀ {v : List V} {x : List P}, RPs K ι H v x → P.deps x ≤ 64 → DpAll K H v (P.datas x) ∧ PyData.canLayAll0 (P.datas x) = true
  | _, _, .nil, _ => ⟨.nil, rfl⟩
  | _, _, .cons h r, hd => by
    simp only [P.deps] at hd
    have ⟨a, b⟩ := RP.dp h (by omega)
    have ⟨c, d⟩ := RPs.dp r (by omega)
    exact ⟨.cons a c, by rw [P.datas, PyData.canLayAll0, b, d]; rfl⟩
end
end
/-- a value as it stands -/
def nowP : D → Sto → Option P
  | .p x, _ => some x
  | .ref n, S => match S[n]? with
    | some (.lst xs) => some (.ro xs)
    | some (.dic kvs) => some (.dic kvs)
    | _ => none
section
variable {K : PySem.W.Frag} {ι : Lk} {H : Hp} {S : Sto}
theorem now_dp (wd : Wd K ι H S) {v : V} {d : D} {x : P} (r : RD K ι H v d) (e : nowP d S = some x) (hd : x.dep ≤ 64) : Dp K H v x.data ∧ SeqAt.shaped x.data = true := by
  have fin : Dp K H v x.data ∧ x.data.canLay0 = true → Dp K H v x.data ∧ SeqAt.shaped x.data = true := fun ⟨a, b⟩ => ⟨a, by
    unfold SeqAt.shaped
    rw [b, dep_data x hd, decide_eq_true hd]; rfl⟩
  cases d with
  | p y =>
    cases e
    cases r with
    | p r => exact fin (r.dp hd)
  | ref n =>
    simp only [nowP] at e
    split at e
    · rename_i xs hx
      cases e
      obtain ⟨a, vs, rfl, _, h, q⟩ := wd.lst r hx
      simp only [P.dep] at hd
      have ⟨c, b⟩ := q.dp (by omega)
      exact fin ⟨.lst (.of h) c, by rw [P.data, PyData.canLay0]; exact b⟩
    · rename_i xs hx
      cases e
      simp only [P.dep] at hd
      omega
    · cases e
end
def P.eqv (x y : P) : Bool := PyData.eqv x.data y.data
def gEqB (neg : Bool) (x y : D) (S : Sto) : R D := match nowP x S, nowP y S with
  | some a, some b => if a.dep ≤ 64 ∧ b.dep ≤ 64 then .ok (.p (.bl (if neg then !a.eqv b else a.eqv b))) S else .no
  | _, _ => .no
theorem eq_ways {X : Cx} (hu : X.A.units + 65 < cLine) (neg : Bool) (x y : D) (S : Sto) (d : D) (S' : Sto) (e : gEqB neg x y S = .ok d S') : ∃ r, OpR X (compareOp (if neg then .NotEq else .Eq)) r ∧ Lk2 X.K r (gEqB neg) x y S := by
  have lk : ∀ (ι : Lk) (H : Hp) (v w : V) (d : D) (S' : Sto) (Q : VK), Wd X.K ι H S → RD X.K ι H v x → RD X.K ι H w y → gEqB neg x y S = .ok d S' → (∀ z ι' H', Step ι H ι' H' → Wd X.K ι' H' S' → RD X.K ι' H' z d → Q z H') →
      ∃ d e, Dp X.K H v d ∧ Dp X.K H w e ∧ SeqAt.shaped d = true ∧ SeqAt.shaped e = true ∧ Q (.bl (if neg then !PyData.eqv d e else PyData.eqv d e)) H := fun ι H v w d S' Q wd r1 r2 e k => by
    unfold gEqB at e
    split at e
    · rename_i a b h1 h2
      split at e
      · rename_i hc
        cases e
        obtain ⟨p1, p2⟩ := now_dp wd r1 h1 hc.1
        obtain ⟨p3, p4⟩ := now_dp wd r2 h2 hc.2
        exact ⟨_, _, p1, p3, p2, p4, k _ ι H (.refl _ _) wd (.p (.bl _))⟩
      · cases e
    · cases e
  cases neg with
  | false => exact ⟨_, op_eqD (by omega), fun ι H v w d S' Q wd r1 r2 e k => lk ι H v w d S' Q wd r1 r2 e k⟩
  | true => exact ⟨_, op_neD (by omega), fun ι H v w d S' Q wd r1 r2 e k => lk ι H v w d S' Q wd r1 r2 e k⟩
section
variable {X : Cx} {a b : Expr} {ca cb : CE} {pos : Pos}
theorem re_eq (hu : X.A.units + 65 < cLine) (ha : PE X a (RdE X.K ca)) (hb : PE X b (RdE X.K cb)) : PE X (.Compare a [.Eq] [b] pos) (RdE X.K (c2 (gEqB false) ca cb)) := re2 (cmp_ways (nomark _) (eq_ways hu false)).1 ha hb
theorem re_ne (hu : X.A.units + 65 < cLine) (ha : PE X a (RdE X.K ca)) (hb : PE X b (RdE X.K cb)) : PE X (.Compare a [.NotEq] [b] pos) (RdE X.K (c2 (gEqB true) ca cb)) := re2 (cmp_ways (nomark _) (eq_ways hu true)).1 ha hb
theorem rt_eq (hu : X.A.units + 65 < cLine) (ha : PE X a (RdE X.K ca)) (hb : PE X b (RdE X.K cb)) : PT X (.Compare a [.Eq] [b] pos) (RdT X.K (cT (c2 (gEqB false) ca cb))) := rt2 (cmp_ways (nomark _) (eq_ways hu false)).2 ha hb
theorem rt_ne (hu : X.A.units + 65 < cLine) (ha : PE X a (RdE X.K ca)) (hb : PE X b (RdE X.K cb)) : PT X (.Compare a [.NotEq] [b] pos) (RdT X.K (cT (c2 (gEqB true) ca cb))) := rt2 (cmp_ways (nomark _) (eq_ways hu true)).2 ha hb
/-! ### order of whole numbers -/
theorem ways_cmpI {op : CmpOp} {f : Int → Int → Bool} (h : OpR X (compareOp op) (rI0 fun i j => .bl (f i j))) (hm : op ≠ .In := by decide) (hm2 : op ≠ .NotIn := by decide) :
    Ways2 X (.Compare a [op] [b] pos) a b (gInt CYes fun i j => .bl (f i j)) ∧ Ways2T X (.Compare a [op] [b] pos) a b (gInt CYes fun i j => .bl (f i j)) :=
  cmp_ways (nomark _ hm hm2) fun x y S _ _ _ => ⟨_, op0 h, lk_int (fun _ _ _ _ => .bl _) x y S⟩
def gLt := gInt CYes fun i j => .bl (decide (i < j))
def gLe := gInt CYes fun i j => .bl (decide (i ≤ j))
def gGt := gInt CYes fun i j => .bl (decide (j < i))
def gGe := gInt CYes fun i j => .bl (decide (j ≤ i))
theorem re_lt (ha : PE X a (RdE X.K ca)) (hb : PE X b (RdE X.K cb)) : PE X (.Compare a [.Lt] [b] pos) (RdE X.K (c2 gLt ca cb)) := re2 (ways_cmpI op_lt).1 ha hb
theorem rt_lt (ha : PE X a (RdE X.K ca)) (hb : PE X b (RdE X.K cb)) : PT X (.Compare a [.Lt] [b] pos) (RdT X.K (cT (c2 gLt ca cb))) := rt2 (ways_cmpI op_lt).2 ha hb
theorem re_le (ha : PE X a (RdE X.K ca)) (hb : PE X b (RdE X.K cb)) : PE X (.Compare a [.LtE] [b] pos) (RdE X.K (c2 gLe ca cb)) := re2 (ways_cmpI op_le).1 ha hb
theorem rt_le (ha : PE X a (RdE X.K ca)) (hb : PE X b (RdE X.K cb)) : PT X (.Compare a [.LtE] [b] pos) (RdT X.K (cT (c2 gLe ca cb))) := rt2 (ways_cmpI op_le).2 ha hb
theorem re_gt (ha : PE X a (RdE X.K ca)) (hb : PE X b (RdE X.K cb)) : PE X (.Compare a [.Gt] [b] pos) (RdE X.K (c2 gGt ca cb)) := re2 (ways_cmpI op_gt).1 ha hb
theorem rt_gt (ha : PE X a (RdE X.K ca)) (hb : PE X b (RdE X.K cb)) : PT X (.Compare a [.Gt] [b] pos) (RdT X.K (cT (c2 gGt ca cb))) := rt2 (ways_cmpI op_gt).2 ha hb
theorem re_ge (ha : PE X a (RdE X.K ca)) (hb : PE X b (RdE X.K cb)) : PE X (.Compare a [.GtE] [b] pos) (RdE X.K (c2 gGe ca cb)) := re2 (ways_cmpI op_ge).1 ha hb
theorem rt_ge (ha : PE X a (RdE X.K ca)) (hb : PE X b (RdE X.K cb)) : PT X (.Compare a [.GtE] [b] pos) (RdT X.K (cT (c2 gGe ca cb))) := rt2 (ways_cmpI op_ge).2 ha hb
/-! ### is None -/
def isN : D → Bool
  | .p .non => true
  | _ => false
theorem isN_rel {K : PySem.W.Frag} {ι : Lk} {H : Hp} {S : Sto} (wd : Wd K ι H S) {v : V} {d : D} (r : RD K ι H v d) (hg : ∀ n, d = .ref n → S[n]? ≠ some .gone ∧ n < S.length) : decide (v = .non) = isN d := by
  cases r with
  | p r => cases r <;> rfl
  | @ref n o e h =>
    obtain ⟨h1, h2⟩ := hg n rfl
    have q := wd.ob n _ (List.getElem?_eq_getElem h2)
    rw [e] at q
    rw [List.getElem?_eq_getElem h2] at h1
    generalize S[n] = z at q h1
    cases q with
    | lst _ _ => rw [h _ rfl]; rfl
    | dic _ _ => rw [h _ rfl]; rfl
    | gone => exact absurd rfl h1
def gIs (neg : Bool) : D → D → Sto → R D
  | .p x, .p .non, S => .ok (.p (.bl (if neg then !isN (.p x) else isN (.p x)))) S
  | _, _, _ => .no
theorem is_ways {X : Cx} (neg : Bool) (x y : D) (S : Sto) (d : D) (S' : Sto) (e : gIs neg x y S = .ok d S') : ∃ r, OpR X (compareOp (if neg then .IsNot else .Is)) r ∧ Lk2 X.K r (gIs neg) x y S := by
  unfold gIs at e
  split at e
  · rename_i x _
    cases neg with
    | false =>
      refine ⟨_, op_isN, fun ι H v w d S' Q wd r1 r2 e k => ?_⟩
      cases e
      cases r2.nonD
      refine ⟨rfl, ?_⟩
      rw [isN_rel wd r1 fun n z => nomatch z]
      exact k _ ι H (.refl _ _) wd (.p (.bl _))
    | true =>
      refine ⟨_, op_notN, fun ι H v w d S' Q wd r1 r2 e k => ?_⟩
      cases e
      cases r2.nonD
      refine ⟨rfl, ?_⟩
      rw [isN_rel wd r1 fun n z => nomatch z]
      exact k _ ι H (.refl _ _) wd (.p (.bl _))
  · cases e
theorem re_is (ha : PE X a (RdE X.K ca)) (hb : PE X b (RdE X.K cb)) : PE X (.Compare a [.Is] [b] pos) (RdE X.K (c2 (gIs false) ca cb)) := re2 (cmp_ways (nomark _) (is_ways false)).1 ha hb
theorem re_isnt (ha : PE X a (RdE X.K ca)) (hb : PE X b (RdE X.K cb)) : PE X (.Compare a [.IsNot] [b] pos) (RdE X.K (c2 (gIs true) ca cb)) := re2 (cmp_ways (nomark _) (is_ways true)).1 ha hb
theorem rt_is (ha : PE X a (RdE X.K ca)) (hb : PE X b (RdE X.K cb)) : PT X (.Compare a [.Is] [b] pos) (RdT X.K (cT (c2 (gIs false) ca cb))) := rt2 (cmp_ways (nomark _) (is_ways false)).2 ha hb
theorem rt_isnt (ha : PE X a (RdE X.K ca)) (hb : PE X b (RdE X.K cb)) : PT X (.Compare a [.IsNot] [b] pos) (RdT X.K (cT (c2 (gIs true) ca cb))) := rt2 (cmp_ways (nomark _) (is_ways true)).2 ha hb
end
end Cw
set_option Elab.async false
set_option linter.all false
set_option maxRecDepth 100000
set_option maxHeartbeats 4000000
/-! Cw4: in, chains, and, or, subscripts, slices, displays, built-ins. -/
namespace Cw
open PySem PySem.Spec PyProof.Rows L2

/-! ### in -/
def flatP : P → Bool
  | .non => true | .bl _ => true | .int _ => true | .str _ => true
  | _ => false
def keyP : P → Option Key
  | .int i => some (.inl i)
  | .str s => some (.inr s)
  | _ => none
def lookK (kvs : List (Key × P)) (k : Key) : Option P := (kvs.find? fun kv => decide (kv.1 = k)).map (·.2)
section
variable {K : PySem.W.Frag} {ι : Lk} {H : Hp}
theorem RP.flat {v : V} {x : P} (r : RP K ι H v x) : flatV v = flatP x := by cases r <;> rfl
theorem RP.eqF {v w : V} {x y : P} (r : RP K ι H v x) (q : RP K ι H w y) (hx : flatP x = true) (hy : flatP y = true) : eqV v w = x.eqv y := by
  cases r <;> first | (cases hx; done) | (cases q <;> first | (cases hy; done) | (simp [eqV, P.eqv, P.data, PyData.eqv]))
theorem RP.key {v : V} {x : P} {k : Key} (r : RP K ι H v x) (h : keyP x = some k) : v = kV k := by
  cases r <;> first | (cases h; rfl) | cases h
theorem RPs.flats : ∀ {vs : List V} {xs : List P}, RPs K ι H vs xs → vs.all flatV = xs.all flatP
  | _, _, .nil => rfl
  | _, _, .cons r t => by rw [List.all_cons, List.all_cons, r.flat, t.flats]
theorem RPs.inF {w : V} {y : P} (q : RP K ι H w y) (hy : flatP y = true) : ∀ {vs : List V} {xs : List P}, RPs K ι H vs xs → xs.all flatP = true → inV w vs = xs.any fun x => x.eqv y
  | _, _, .nil, _ => rfl
  | _, _, .cons r t, h => by
    rw [List.all_cons, Bool.and_eq_true] at h
    have ih := RPs.inF q hy t h.2
    unfold inV at ih ⊢
    rw [List.any_cons, List.any_cons, r.eqF q h.1 hy, ih]
theorem RKs.look : ∀ {vs : List (Key × V)} {xs : List (Key × P)} (k : Key), RKs K ι H vs xs → (∀ x, lookK xs k = some x → ∃ v, valV vs k = some v ∧ RP K ι H v x) ∧ (lookK xs k = none → valV vs k = none)
  | _, _, k, .nil => ⟨fun x h => (by cases h), fun _ => rfl⟩
  | _, _, k, .cons (k := k') (v := v) (x := y) r t => by
    have ⟨ih1, ih2⟩ := RKs.look k t
    by_cases e : k' = k
    · subst e
      have e1 : ∀ {α : Type} (a : α) (l : List (Key × α)), (((k', a) :: l).find? fun kv => decide (kv.1 = k')).map (·.2) = some a := fun a l => by simp [List.find?_cons]
      exact ⟨fun x h => ⟨v, e1 _ _, by rw [lookK, e1] at h; cases h; exact r⟩, fun h => by rw [lookK, e1] at h; cases h⟩
    · have e1 : ∀ {α : Type} (a : α) (l : List (Key × α)), (((k', a) :: l).find? fun kv => decide (kv.1 = k)).map (·.2) = (l.find? fun kv => decide (kv.1 = k)).map (·.2) := fun a l => by simp [List.find?_cons, e]
      refine ⟨fun x h => ?_, fun h => ?_⟩
      · rw [lookK, e1] at h
        obtain ⟨w, h1, h2⟩ := ih1 x h
        exact ⟨w, (e1 _ _).trans h1, h2⟩
      · rw [lookK, e1] at h
        exact (e1 _ _).trans (ih2 h)
theorem RKs.length : ∀ {vs : List (Key × V)} {xs : List (Key × P)}, RKs K ι H vs xs → vs.length = xs.length
  | _, _, .nil => rfl
  | _, _, .cons _ r => congrArg (· + 1) r.length
end
/-- items of a list or a tuple, the script too -/
def itemsA : D → Sto → Option (List P)
  | .p (.tup xs), _ => some xs
  | d, S => seqA d S
theorem Wd.items {K : PySem.W.Frag} {ι : Lk} {H : Hp} {S : Sto} (wd : Wd K ι H S) {v : V} {d : D} {xs : List P} (r : RD K ι H v d) (e : itemsA d S = some xs) : ∃ a vs, v = .ref a ∧ (SqL K H a vs ∨ SqT K H a vs) ∧ RPs K ι H vs xs := by
  unfold itemsA at e
  split at e
  · cases e
    obtain ⟨a, vs, e1, h, q⟩ := r.tupD
    exact ⟨a, vs, e1, .inr h.sq, q⟩
  · obtain ⟨a, vs, e1, h, q⟩ := wd.seqA r e
    exact ⟨a, vs, e1, .inl h, q⟩
def inList (x : P) (xs : List P) : Bool := xs.any fun z => z.eqv x
/-- one sign, a text -/
def sign1 : P → D → Option (Nat × Str)
  | .str ⟨⟨[c]⟩⟩, .p (.str z) => some (c, z)
  | _, _ => none
theorem sign1_eq {x : P} {y : D} {c : Nat} {z : Str} (h : sign1 x y = some (c, z)) : x = .str ⟨⟨[c]⟩⟩ ∧ y = .p (.str z) := by
  unfold sign1 at h
  split at h
  · cases h; exact ⟨rfl, rfl⟩
  · cases h
def gInB (neg : Bool) (x y : D) (S : Sto) : R D := match x with
  | .ref _ => .no
  | .p x => match dicL y S with
    | some kvs => match keyP x with
      | some k => .ok (.p (.bl (if neg then !(lookK kvs k).isSome else (lookK kvs k).isSome))) S
      | none => .no
    | none => match sign1 x y with
      | some (c, z) => .ok (.p (.bl (if neg then !decide (c ∈ z.cps.toList) else decide (c ∈ z.cps.toList)))) S
      | none => match itemsA y S with
        | some xs => if flatP x && xs.all flatP then .ok (.p (.bl (if neg then !inList x xs else inList x xs))) S else
          match seqL y S with
          | some xs => if x.dep ≤ 64 ∧ P.deps xs < 64 then .ok (.p (.bl (if neg then !inList x xs else inList x xs))) S else .no
          | none => .no
        | none => .no
theorem any_data (x : P) : ∀ xs : List P, ((P.datas xs).any fun z => PyData.eqv z x.data) = inList x xs
  | [] => rfl
  | y :: ys => by
    unfold inList
    rw [P.datas, List.any_cons, List.any_cons, any_data x ys]
    rfl
theorem op_dinA {X : Cx} (hu : X.A.units + 65 < cLine) : OpR X (compareOp .In) (fun y x H2 Q => ∃ a o, x = .ref a ∧ DGet H2 a y o ∧ Q (.bl o.isSome) H2) := by
  intro pins s σ H x y v u Q I rx ry h
  obtain ⟨a, o, rfl, g, q⟩ := h
  obtain rfl : u = Value.ref a := ry
  exact d_in (by omega) I g rx fun s3 I3 => ⟨.bl o.isSome, H, I3, rfl, q⟩
theorem op_dninA {X : Cx} (hu : X.A.units + 65 < cLine) : OpR X (compareOp .NotIn) (fun y x H2 Q => ∃ a o, x = .ref a ∧ DGet H2 a y o ∧ Q (.bl (!o.isSome)) H2) := by
  intro pins s σ H x y v u Q I rx ry h
  obtain ⟨a, o, rfl, g, q⟩ := h
  obtain rfl : u = Value.ref a := ry
  exact d_notIn (by omega) I g rx fun s3 I3 => ⟨.bl (!o.isSome), H, I3, rfl, q⟩
theorem in_ways {X : Cx} (hu : X.A.units + 65 < cLine) (neg : Bool) (x y : D) (S : Sto) (d : D) (S' : Sto) (e : gInB neg x y S = .ok d S') : ∃ r, OpR X (compareOp (if neg then .NotIn else .In)) r ∧ Lk2 X.K r (gInB neg) x y S := by
  unfold gInB at e
  split at e
  · cases e
  · rename_i x
    split at e
    · rename_i kvs hk
      split at e
      · rename_i k hx
        have lk : ∀ (ι : Lk) (H : Hp) (v w : V) (d : D) (S' : Sto) (Q : VK), Wd X.K ι H S → RD X.K ι H v (.p x) → RD X.K ι H w y → gInB neg (.p x) y S = .ok d S' → (∀ z ι' H', Step ι H ι' H' → Wd X.K ι' H' S' → RD X.K ι' H' z d → Q z H') →
            ∃ a o, w = .ref a ∧ DGet H a v o ∧ Q (.bl (if neg then !o.isSome else o.isSome)) H := fun ι H v w d S' Q wd r1 r2 e k' => by
          unfold gInB at e
          simp only [hk, hx] at e
          cases e
          obtain ⟨a, vs, rfl, h1, q1⟩ := wd.dct r2 hk
          cases r1 with
          | p r1 =>
            cases r1.key hx
            refine ⟨a, _, rfl, dgK h1, ?_⟩
            have e2 : (valV vs k).isSome = (lookK kvs k).isSome := by
              have ⟨l1, l2⟩ := q1.look k
              cases hl : lookK kvs k with
              | none => rw [l2 hl]; rfl
              | some z =>
                obtain ⟨v, hv, _⟩ := l1 z hl
                rw [hv]; rfl
            rw [e2]
            exact k' _ ι H (.refl _ _) wd (.p (.bl _))
        cases neg with
        | false => exact ⟨_, op_dinA hu, fun ι H v w d S' Q wd r1 r2 e k => lk ι H v w d S' Q wd r1 r2 e k⟩
        | true => exact ⟨_, op_dninA hu, fun ι H v w d S' Q wd r1 r2 e k => lk ι H v w d S' Q wd r1 r2 e k⟩
      · cases e
    · rename_i hk
      split at e
      · rename_i c z hs
        obtain ⟨rfl, rfl⟩ := sign1_eq hs
        have lk : ∀ (ι : Lk) (H : Hp) (v w : V) (d : D) (S' : Sto) (Q : VK), Wd X.K ι H S → RD X.K ι H v (.p (.str ⟨⟨[c]⟩⟩)) → RD X.K ι H w (.p (.str z)) → gInB neg (.p (.str ⟨⟨[c]⟩⟩)) (.p (.str z)) S = .ok d S' → (∀ z ι' H', Step ι H ι' H' → Wd X.K ι' H' S' → RD X.K ι' H' z d → Q z H') →
            ∃ (c : Nat) (z : Str), v = .str ⟨#[c]⟩ ∧ w = .str z ∧ Q (.bl (if neg then !decide (c ∈ z.cps.toList) else decide (c ∈ z.cps.toList))) H := fun ι H v w d S' Q wd r1 r2 e k' => by
          unfold gInB at e
          simp only [hk, hs] at e
          cases e
          exact ⟨c, z, r1.strD.1, r2.strD.1, k' _ ι H (.refl _ _) wd (.p (.bl _))⟩
        cases neg with
        | false => exact ⟨_, op_in_sign, fun ι H v w d S' Q wd r1 r2 e k => lk ι H v w d S' Q wd r1 r2 e k⟩
        | true => exact ⟨_, op_notIn_sign, fun ι H v w d S' Q wd r1 r2 e k => lk ι H v w d S' Q wd r1 r2 e k⟩
      · rename_i hno
        split at e
        · rename_i xs hi
          split at e
          · rename_i hf
            rw [Bool.and_eq_true] at hf
            have lk : ∀ (ι : Lk) (H : Hp) (v w : V) (d : D) (S' : Sto) (Q : VK), Wd X.K ι H S → RD X.K ι H v (.p x) → RD X.K ι H w y → gInB neg (.p x) y S = .ok d S' → (∀ z ι' H', Step ι H ι' H' → Wd X.K ι' H' S' → RD X.K ι' H' z d → Q z H') → rIn X.K neg v w H Q := fun ι H v w d S' Q wd r1 r2 e k' => by
              unfold gInB at e
              simp only [hk, hno, hi, hf.1, hf.2, Bool.and_self, if_true] at e
              cases e
              obtain ⟨a, vs, rfl, h1, q1⟩ := wd.items r2 hi
              cases r1 with
              | p r1 =>
                refine ⟨a, vs, rfl, h1, by rw [r1.flat]; exact hf.1, by rw [q1.flats]; exact hf.2, ?_⟩
                rw [RPs.inF r1 hf.1 q1 hf.2]
                exact k' _ ι H (.refl _ _) wd (.p (.bl _))
            cases neg with
            | false => exact ⟨_, op_in_seq, lk⟩
            | true => exact ⟨_, op_notIn_seq, lk⟩
          · rename_i hf
            split at e
            · rename_i ys hy
              split at e
              · rename_i hd
                have lk : ∀ (ι : Lk) (H : Hp) (v w : V) (d : D) (S' : Sto) (Q : VK), Wd X.K ι H S → RD X.K ι H v (.p x) → RD X.K ι H w y → gInB neg (.p x) y S = .ok d S' → (∀ z ι' H', Step ι H ι' H' → Wd X.K ι' H' S' → RD X.K ι' H' z d → Q z H') →
                    ∃ d ds, Dp X.K H v d ∧ Dp X.K H w (.list ds) ∧ SeqAt.shaped d = true ∧ SeqAt.shaped (.list ds) = true ∧ Q (.bl (if neg then !(ds.any fun z => PyData.eqv z d) else ds.any fun z => PyData.eqv z d)) H := fun ι H v w d S' Q wd r1 r2 e k' => by
                  unfold gInB at e
                  simp only [hk, hno, hi, hf, hy, hd, if_false, and_self, if_true, Bool.false_eq_true] at e
                  cases e
                  obtain ⟨a, vs, rfl, h1, q1⟩ := wd.seq r2 hy
                  obtain ⟨p1, p2⟩ := now_dp wd r1 (x := x) rfl hd.1
                  have ⟨p3, p4⟩ := q1.dp (Nat.le_of_lt hd.2)
                  refine ⟨_, _, p1, .lst (.inl h1) p3, p2, ?_, ?_⟩
                  · unfold SeqAt.shaped
                    rw [PyData.canLay0, p4, PyData.depth, dep_datas _ (Nat.le_of_lt hd.2), decide_eq_true (by omega)]; rfl
                  · rw [any_data]
                    exact k' _ ι H (.refl _ _) wd (.p (.bl _))
                cases neg with
                | false => exact ⟨_, op_inD hu, fun ι H v w d S' Q wd r1 r2 e k => lk ι H v w d S' Q wd r1 r2 e k⟩
                | true => exact ⟨_, op_notInD hu, fun ι H v w d S' Q wd r1 r2 e k => lk ι H v w d S' Q wd r1 r2 e k⟩
              · cases e
            · cases e
        · cases e
section
variable {X : Cx} {a b : Expr} {ca cb : CE} {pos : Pos}
theorem re_in (hu : X.A.units + 65 < cLine) (ha : PE X a (RdE X.K ca)) (hb : PE X b (RdE X.K cb)) (hm : behindInMarks .In b = false := by rfl) : PE X (.Compare a [.In] [b] pos) (RdE X.K (c2 (gInB false) ca cb)) := re2 (cmp_ways hm (in_ways hu false)).1 ha hb
theorem rt_in (hu : X.A.units + 65 < cLine) (ha : PE X a (RdE X.K ca)) (hb : PE X b (RdE X.K cb)) (hm : behindInMarks .In b = false := by rfl) : PT X (.Compare a [.In] [b] pos) (RdT X.K (cT (c2 (gInB false) ca cb))) := rt2 (cmp_ways hm (in_ways hu false)).2 ha hb
theorem re_nin (hu : X.A.units + 65 < cLine) (ha : PE X a (RdE X.K ca)) (hb : PE X b (RdE X.K cb)) (hm : behindInMarks .NotIn b = false := by rfl) : PE X (.Compare a [.NotIn] [b] pos) (RdE X.K (c2 (gInB true) ca cb)) := re2 (cmp_ways hm (in_ways hu true)).1 ha hb
theorem rt_nin (hu : X.A.units + 65 < cLine) (ha : PE X a (RdE X.K ca)) (hb : PE X b (RdE X.K cb)) (hm : behindInMarks .NotIn b = false := by rfl) : PT X (.Compare a [.NotIn] [b] pos) (RdT X.K (cT (c2 (gInB true) ca cb))) := rt2 (cmp_ways hm (in_ways hu true)).2 ha hb
end
end Cw
set_option Elab.async false
set_option linter.all false
set_option maxRecDepth 100000
set_option maxHeartbeats 4000000
/-! Cw5: chains, and, or, subscripts, slices, displays, built-ins. -/
namespace Cw
open PySem PySem.Spec PyProof.Rows L2

/-! ### a < b < c -/
def cChain (g g' : D → D → Sto → R D) (ca cb cc : CE) : CE := fun ρ S => (ca ρ S).bind fun x S1 => (cb ρ S1).bind fun y S2 => (bT (g x y S2)).bind fun k S3 => if k then (cc ρ S3).bind fun z S4 => g' y z S4 else .ok (.p (.bl false)) S3
theorem chain_rd {X : Cx} {g g' : D → D → Sto → R D} {ca cb cc : CE} {op op' : CmpOp} (h : ∀ x y S d S', g x y S = .ok d S' → ∃ r, OpR X (compareOp op) r ∧ Lk2 X.K r g x y S) (h' : ∀ x y S d S', g' x y S = .ok d S' → ∃ r, OpR X (compareOp op') r ∧ Lk2 X.K r g' x y S)
    {ι : Lk} {H : Hp} {σ : L2.St} {ρ : Ev} {S : Sto} {d : D} {S' : Sto} {Q : VK} (cf : Cf X.K ι H σ ρ S) (e0 : cChain g g' ca cb cc ρ S = .ok d S') (k : ∀ v ι' H', Step ι H ι' H' → Wd X.K ι' H' S' → RD X.K ι' H' v d → Q v H') :
    ∃ r r', OpR X (compareOp op) r ∧ OpR X (compareOp op') r' ∧ tChain r r' (RdE X.K ca) (RdE X.K cb) (RdE X.K cc) σ H Q := by
  obtain ⟨x, S1, e1, e2⟩ := bind_ok e0
  obtain ⟨y, S2, e3, e4⟩ := bind_ok e2
  obtain ⟨b, S3, e5, e6⟩ := bind_ok e4
  obtain ⟨r, ho, hl⟩ := h x y S2 _ S3 (bT_ok e5)
  cases b with
  | false =>
    rw [if_neg Bool.false_ne_true] at e6
    cases e6
    refine ⟨r, fun _ _ _ _ => False, ho, fun _ _ _ _ _ _ _ _ _ _ _ _ q => q.elim, ?_⟩
    refine RdE.run cf e1 fun v ι1 H1 st1 cf1 r1 => RdE.run cf1 e3 fun w ι2 H2 st2 cf2 r2 => ?_
    refine hl ι2 H2 v w _ _ _ cf2.wd (r1.mono st2) r2 (bT_ok e5) fun z ι3 H3 st3 wd3 r3 => ?_
    refine ⟨false, r3.blD, ?_⟩
    rw [if_neg Bool.false_ne_true]
    exact k _ ι3 H3 ((st1.trans st2).trans st3) wd3 (.p (.bl _))
  | true =>
    rw [if_pos rfl] at e6
    obtain ⟨z, S4, e7, e8⟩ := bind_ok e6
    obtain ⟨r', ho', hl'⟩ := h' y z S4 _ S' e8
    refine ⟨r, r', ho, ho', ?_⟩
    refine RdE.run cf e1 fun v ι1 H1 st1 cf1 r1 => RdE.run cf1 e3 fun w ι2 H2 st2 cf2 r2 => ?_
    refine hl ι2 H2 v w _ S3 _ cf2.wd (r1.mono st2) r2 (bT_ok e5) fun z' ι3 H3 st3 wd3 r3 => ?_
    refine ⟨true, r3.blD, ?_⟩
    rw [if_pos rfl]
    refine RdE.run (cf2.step st3 wd3) e7 fun u ι4 H4 st4 cf4 r4 => ?_
    exact hl' ι4 H4 w u d S' Q cf4.wd (r2.mono (st3.trans st4)) r4 e8 fun z2 ι' H' st wd rz => k z2 ι' H' ((((st1.trans st2).trans st3).trans st4).trans st) wd rz
section
variable {X : Cx} {a b c : Expr} {ca cb cc : CE} {pos : Pos} {op op' : CmpOp} {g g' : D → D → Sto → R D}
theorem re_chain (h : ∀ x y S d S', g x y S = .ok d S' → ∃ r, OpR X (compareOp op) r ∧ Lk2 X.K r g x y S) (h' : ∀ x y S d S', g' x y S = .ok d S' → ∃ r, OpR X (compareOp op') r ∧ Lk2 X.K r g' x y S)
    (ha : PE X a (RdE X.K ca)) (hb : PE X b (RdE X.K cb)) (hc : PE X c (RdE X.K cc)) (hm : lastMarks [op, op'] [b, c] = false := by with_unfolding_all rfl) : PE X (.Compare a [op, op'] [b, c] pos) (RdE X.K (cChain g g' ca cb cc)) := by
  refine ⟨fun pins s σ H Q I ⟨ι, ρ, S, cf, d, S', e0, k⟩ => ?_⟩
  obtain ⟨r, r', ho, ho', q⟩ := chain_rd h h' cf e0 k
  exact (pe_chain ho ho' ha hb hc hm).run pins s σ H Q I q
theorem rt_chain (h : ∀ x y S d S', g x y S = .ok d S' → ∃ r, OpR X (compareOp op) r ∧ Lk2 X.K r g x y S) (h' : ∀ x y S d S', g' x y S = .ok d S' → ∃ r, OpR X (compareOp op') r ∧ Lk2 X.K r g' x y S)
    (ha : PE X a (RdE X.K ca)) (hb : PE X b (RdE X.K cb)) (hc : PE X c (RdE X.K cc)) (hm : lastMarks [op, op'] [b, c] = false := by with_unfolding_all rfl) : PT X (.Compare a [op, op'] [b, c] pos) (RdT X.K (cT (cChain g g' ca cb cc))) := by
  refine ⟨fun pins s σ H Q I ⟨ι, ρ, S, cf, d, S', e0, k⟩ => ?_⟩
  obtain ⟨r, r', ho, ho', q⟩ := chain_rd (Q := fun x H' => ∃ k, x = .bl k ∧ Q k H') h h' cf (bT_ok e0) fun v ι' H' st wd rv => ⟨d, rv.blD, k ι' H' st wd⟩
  exact (pt_chain ho ho' ha hb hc hm).run pins s σ H Q I q
theorem w_lt : ∀ x y S d S', gLt x y S = .ok d S' → ∃ r, OpR X (compareOp .Lt) r ∧ Lk2 X.K r gLt x y S := fun x y S _ _ _ => ⟨_, op0 op_lt, lk_int (fun _ _ _ _ => .bl _) x y S⟩
theorem w_le : ∀ x y S d S', gLe x y S = .ok d S' → ∃ r, OpR X (compareOp .LtE) r ∧ Lk2 X.K r gLe x y S := fun x y S _ _ _ => ⟨_, op0 op_le, lk_int (fun _ _ _ _ => .bl _) x y S⟩
theorem w_gt : ∀ x y S d S', gGt x y S = .ok d S' → ∃ r, OpR X (compareOp .Gt) r ∧ Lk2 X.K r gGt x y S := fun x y S _ _ _ => ⟨_, op0 op_gt, lk_int (fun _ _ _ _ => .bl _) x y S⟩
theorem w_ge : ∀ x y S d S', gGe x y S = .ok d S' → ∃ r, OpR X (compareOp .GtE) r ∧ Lk2 X.K r gGe x y S := fun x y S _ _ _ => ⟨_, op0 op_ge, lk_int (fun _ _ _ _ => .bl _) x y S⟩
end

/-! ### tests -/
/-- a value's truth -/
def truD : D → Sto → Option Bool
  | .p .non, _ => some false
  | .p (.bl b), _ => some b
  | .p (.int i), _ => some (i != 0)
  | .p (.str s), _ => if s.length ≤ sizeLine then some ((s.length : Int) != 0) else none
  | d, S => match itemsA d S with
    | some xs => some (!xs.isEmpty)
    | none => match dicL d S with
      | some kvs => some (!kvs.isEmpty)
      | none => none
def cTru (c : CE) : CT := fun ρ S => (c ρ S).bind fun d S1 => match truD d S1 with
  | some b => .ok b S1
  | none => .no
def cAnd (t u : CT) : CT := fun ρ S => (t ρ S).bind fun b S1 => if b then u ρ S1 else .ok false S1
def cOr (t u : CT) : CT := fun ρ S => (t ρ S).bind fun b S1 => if b then .ok true S1 else u ρ S1
def cNot (t : CT) : CT := fun ρ S => (t ρ S).bind fun b S1 => .ok (!b) S1
def cAndV (a b : CE) : CE := fun ρ S => (bT (a ρ S)).bind fun k S1 => if k then b ρ S1 else .ok (.p (.bl false)) S1
def cOrV (a b : CE) : CE := fun ρ S => (bT (a ρ S)).bind fun k S1 => if k then .ok (.p (.bl true)) S1 else b ρ S1
def cNotV (a : CE) : CE := fun ρ S => (bT (a ρ S)).bind fun k S1 => .ok (.p (.bl (!k))) S1
def cIf (t : CT) (a b : CE) : CE := fun ρ S => (t ρ S).bind fun k S1 => if k then a ρ S1 else b ρ S1
theorem isEmpty_len {α β : Type} {xs : List α} {ys : List β} (h : xs.length = ys.length) : xs.isEmpty = ys.isEmpty := by
  cases xs <;> cases ys <;> simp_all
theorem tru_of {K : PySem.W.Frag} {ι : Lk} {H : Hp} {S : Sto} (wd : Wd K ι H S) {v : V} {d : D} {b : Bool} (r : RD K ι H v d) (e : truD d S = some b) : TruV K v H b ∨ ∃ a kvs, v = .ref a ∧ Rd H a (.dK kvs) ∧ b = !kvs.isEmpty := by
  unfold truD at e
  split at e
  · cases e; cases r.nonD; exact .inl rfl
  · cases e; cases r.blD; exact .inl rfl
  · cases e; cases r.intD; exact .inl rfl
  · split at e
    · cases e; obtain ⟨rfl, _⟩ := r.strD; exact .inl ⟨by assumption, rfl⟩
    · cases e
  · split at e
    · rename_i xs hx
      cases e
      obtain ⟨a, vs, rfl, h, q⟩ := wd.items r hx
      rcases h with h | h
      · exact .inl (.inl ⟨vs, h, by rw [isEmpty_len q.length]⟩)
      · exact .inl (.inr (.inl ⟨vs, h, by rw [isEmpty_len q.length]⟩))
    · split at e
      · rename_i kvs hk
        cases e
        obtain ⟨a, vs, rfl, h, q⟩ := wd.dct r hk
        exact .inr ⟨a, vs, rfl, h, by rw [isEmpty_len q.length]⟩
      · cases e
theorem tru_any {X : Cx} : TruR X (fun x H Q => ∃ k, (TruV X.K x H k ∨ ∃ a kvs, x = .ref a ∧ Rd H a (.dK kvs) ∧ k = !kvs.isEmpty) ∧ Q k H) := by
  rintro pins s σ H x v Q I rx ⟨k, h | ⟨a, kvs, rfl, h, rfl⟩, q⟩
  · exact tru_ok pins s σ H x v Q I rx ⟨k, h, q⟩
  · cases rx
    obtain ⟨hz, hS, vs, r, m⟩ : kvs.length ≤ sizeLine ∧ (a == sysModules) = false ∧ ∃ vs, KV kvs vs ∧ s.heap.DictOf (mixKind X.prog X.w) a vs := h.ok I.hok
    have hl : kvs.length = vs.length := Paired.length r
    exact wpAny_truthy_dict hS m (by have := sizeLine_eq; omega) ⟨H, I.tok _, by rw [isEmpty_kv r]; exact q⟩
section
variable {X : Cx} {a b : Expr} {ca cb : CE} {t u : CT} {rest : List Expr} {pos : Pos}
theorem rt_val (h : PE X a (RdE X.K ca)) (he : ∀ whole, isTrue a X.env whole = (do let v ← whole; standAt a.pos; holding [v] (truthy v)) := by intro _; rfl) : PT X a (RdT X.K (cTru ca)) :=
  (pt_truthR h tru_any he).weak fun σ H Q ⟨ι, ρ, S, cf, d, S', e, k⟩ => by
    obtain ⟨x, S1, e1, e2⟩ := bind_ok e
    refine RdE.run cf e1 fun v ι1 H1 st1 cf1 r1 => ?_
    split at e2
    · rename_i b hb
      cases e2
      exact ⟨_, tru_of cf1.wd r1 hb, k ι1 H1 st1 cf1.wd⟩
    · cases e2
theorem RdT.seq2 {K : PySem.W.Frag} {σ : L2.St} {H : Hp} {t : CT} {f : Bool → Ev → Sto → R Bool} {Q : Bool → Hp → Prop} (h : RdT K (fun ρ S => (t ρ S).bind fun b S1 => f b ρ S1) σ H Q) (w : Bool → TT)
    (k : ∀ b ι ρ S σ H, Cf K ι H σ ρ S → PostT K ι H (f b ρ S) Q → w b σ H Q) : RdT K t σ H fun b H1 => w b σ H1 Q := by
  obtain ⟨ι, ρ, S, cf, d, S', e, k'⟩ := h
  obtain ⟨b, S1, e1, e2⟩ := bind_ok e
  exact RdT.run cf e1 fun ι1 H1 st1 cf1 => k b ι1 ρ S1 σ H1 cf1 ⟨d, S', e2, fun ι' H' st wd => k' ι' H' (st1.trans st) wd⟩
theorem RdT.of {K : PySem.W.Frag} {ι : Lk} {σ : L2.St} {ρ : Ev} {S : Sto} {H : Hp} {t : CT} {Q : Bool → Hp → Prop} (cf : Cf K ι H σ ρ S) (h : PostT K ι H (t ρ S) Q) : RdT K t σ H Q := ⟨ι, ρ, S, cf, h⟩
theorem RdE.of {K : PySem.W.Frag} {ι : Lk} {σ : L2.St} {ρ : Ev} {S : Sto} {H : Hp} {t : CE} {Q : VK} (cf : Cf K ι H σ ρ S) (h : PostE K ι H (t ρ S) Q) : RdE K t σ H Q := ⟨ι, ρ, S, cf, h⟩
theorem PostT.ok {K : PySem.W.Frag} {ι : Lk} {H : Hp} {b : Bool} {S : Sto} {Q : Bool → Hp → Prop} (wd : Wd K ι H S) (h : PostT K ι H (.ok b S) Q) : Q b H := by
  obtain ⟨d, S', e, k⟩ := h
  cases e
  exact k ι H (.refl _ _) wd
theorem PostE.okP {K : PySem.W.Frag} {ι : Lk} {H : Hp} {v : V} {x : P} {S : Sto} {Q : VK} (wd : Wd K ι H S) (r : RP K ι H v x) (h : PostE K ι H (.ok (.p x) S) Q) : Q v H := by
  obtain ⟨d, S', e, k⟩ := h
  cases e
  exact k v ι H (.refl _ _) wd (.p r)
theorem rw_and1 (ha : PT X a (RdT X.K t)) : PW X (.BoolOp .And [a] pos) (RdT X.K t) := pw_and1 ha
theorem rw_or1 (ha : PT X a (RdT X.K t)) : PW X (.BoolOp .Or [a] pos) (RdT X.K t) := pw_or1 ha
theorem rw_and (ha : PT X a (RdT X.K t)) (hb : PW X (.BoolOp .And (b :: rest) pos) (RdT X.K u)) : PW X (.BoolOp .And (a :: b :: rest) pos) (RdT X.K (cAnd t u)) := (pw_and ha hb).weak fun σ H Q h =>
  RdT.seq2 (f := fun b ρ S => if b then u ρ S else .ok false S) h (fun c σ H Q => if c = true then RdT X.K u σ H Q else Q false H) fun c ι ρ S σ H cf p => by
    cases c with
    | true =>
      rw [if_pos rfl] at p ⊢
      exact .of cf p
    | false =>
      rw [if_neg Bool.false_ne_true] at p ⊢
      exact p.ok cf.wd
theorem rw_or (ha : PT X a (RdT X.K t)) (hb : PW X (.BoolOp .Or (b :: rest) pos) (RdT X.K u)) : PW X (.BoolOp .Or (a :: b :: rest) pos) (RdT X.K (cOr t u)) := (pw_or ha hb).weak fun σ H Q h =>
  RdT.seq2 (f := fun b ρ S => if b then .ok true S else u ρ S) h (fun c σ H Q => if c = true then Q true H else RdT X.K u σ H Q) fun c ι ρ S σ H cf p => by
    cases c with
    | true =>
      rw [if_pos rfl] at p ⊢
      exact p.ok cf.wd
    | false =>
      rw [if_neg Bool.false_ne_true] at p ⊢
      exact .of cf p
theorem rt_not (ha : PT X a (RdT X.K t)) : PT X (.UnaryOp .Not a pos) (RdT X.K (cNot t)) := (pt_not ha).weak fun σ H Q h =>
  RdT.seq2 (f := fun b _ S => .ok (!b) S) h (fun c σ H Q => Q (!c) H) fun c ι ρ S σ H cf p => p.ok cf.wd
theorem re_one {op} (h : PE X a (RdE X.K ca)) : PE X (.BoolOp op [a] pos) (RdE X.K ca) := pe_one h
theorem re_and (ha : PE X a (RdE X.K ca)) (hb : PE X (.BoolOp .And (b :: rest) pos) (RdE X.K cb)) : PE X (.BoolOp .And (a :: b :: rest) pos) (RdE X.K (cAndV ca cb)) := (pe_and ha hb).weak fun σ H Q ⟨ι, ρ, S, cf, d, S', e, k⟩ => by
  obtain ⟨c, S1, e1, e2⟩ := bind_ok e
  refine RdE.run cf (bT_ok e1) fun v ι1 H1 st1 cf1 r1 => ⟨c, r1.blD, ?_⟩
  cases c with
  | true =>
    rw [if_pos rfl] at e2 ⊢
    exact .of cf1 ⟨d, S', e2, fun v ι' H' st wd r => k v ι' H' (st1.trans st) wd r⟩
  | false =>
    rw [if_neg Bool.false_ne_true] at e2 ⊢
    cases e2
    exact k _ ι1 H1 st1 cf1.wd (.p (.bl _))
theorem re_or (ha : PE X a (RdE X.K ca)) (hb : PE X (.BoolOp .Or (b :: rest) pos) (RdE X.K cb)) : PE X (.BoolOp .Or (a :: b :: rest) pos) (RdE X.K (cOrV ca cb)) := (pe_or ha hb).weak fun σ H Q ⟨ι, ρ, S, cf, d, S', e, k⟩ => by
  obtain ⟨c, S1, e1, e2⟩ := bind_ok e
  refine RdE.run cf (bT_ok e1) fun v ι1 H1 st1 cf1 r1 => ⟨c, r1.blD, ?_⟩
  cases c with
  | false =>
    rw [if_neg Bool.false_ne_true] at e2 ⊢
    exact .of cf1 ⟨d, S', e2, fun v ι' H' st wd r => k v ι' H' (st1.trans st) wd r⟩
  | true =>
    rw [if_pos rfl] at e2 ⊢
    cases e2
    exact k _ ι1 H1 st1 cf1.wd (.p (.bl _))
theorem re_not (ha : PE X a (RdE X.K ca)) : PE X (.UnaryOp .Not a pos) (RdE X.K (cNotV ca)) := (pe_not ha).weak fun σ H Q ⟨ι, ρ, S, cf, d, S', e, k⟩ => by
  obtain ⟨c, S1, e1, e2⟩ := bind_ok e
  refine RdE.run cf (bT_ok e1) fun v ι1 H1 st1 cf1 r1 => ⟨c, r1.blD, ?_⟩
  cases e2
  exact k _ ι1 H1 st1 cf1.wd (.p (.bl _))
theorem re_if {c : Expr} (hc : PT X c (RdT X.K t)) (ha : PE X a (RdE X.K ca)) (hb : PE X b (RdE X.K cb)) : PE X (.IfExp c a b pos) (RdE X.K (cIf t ca cb)) := (pe_ifExp hc ha hb).weak fun σ H Q ⟨ι, ρ, S, cf, d, S', e, k⟩ => by
  obtain ⟨c, S1, e1, e2⟩ := bind_ok e
  refine RdT.run cf e1 fun ι1 H1 st1 cf1 => ?_
  cases c with
  | true =>
    rw [if_pos rfl] at e2 ⊢
    exact .of cf1 ⟨d, S', e2, fun v ι' H' st wd r => k v ι' H' (st1.trans st) wd r⟩
  | false =>
    rw [if_neg Bool.false_ne_true] at e2 ⊢
    exact .of cf1 ⟨d, S', e2, fun v ι' H' st wd r => k v ι' H' (st1.trans st) wd r⟩
end

/-! ### -n -/
def cNeg (c : CE) : CE := fun ρ S => (c ρ S).bind fun d S1 => match d with
  | .p (.int i) => .ok (.p (.int (-i))) S1
  | _ => .no
theorem re_neg {X : Cx} {a : Expr} {ca : CE} {pos : Pos} (ha : PE X a (RdE X.K ca)) : PE X (.UnaryOp .USub a pos) (RdE X.K (cNeg ca)) := (pe_un un_neg ha).weak fun σ H Q ⟨ι, ρ, S, cf, d, S', e, k⟩ => by
  obtain ⟨x, S1, e1, e2⟩ := bind_ok e
  refine RdE.run cf e1 fun v ι1 H1 st1 cf1 r1 => ?_
  split at e2
  · cases e2
    exact ⟨_, r1.intD, k _ ι1 H1 st1 cf1.wd (.p (.int _))⟩
  · cases e2

/-! ### subscripts -/
def gIxL (xs : Option (List P)) (i : Int) (S : Sto) : R D := match xs with
  | some xs => match atI xs i with
    | some x => .ok (.p x) S
    | none => .no
  | none => .no
def gIx (x y : D) (S : Sto) : R D := match dicL x S with
  | some kvs => match y with
    | .p y => match keyP y with
      | some k => match lookK kvs k with
        | some v => .ok (.p v) S
        | none => .no
      | none => .no
    | _ => .no
  | none => match x, y with
    | .p (.str s), .p (.int i) => if s.length ≤ sizeLine then match atI s.cps.toList i with
        | some c => .ok (.p (.str ⟨#[c]⟩)) S
        | none => .no
      else .no
    | x, .p (.int i) => gIxL (itemsA x S) i S
    | _, _ => .no
theorem RPs.atI {K : PySem.W.Frag} {ι : Lk} {H : Hp} {vs : List V} {xs : List P} {i : Int} {x : P} (r : RPs K ι H vs xs) (h : L2.atI xs i = some x) : ∃ v, L2.atI vs i = some v ∧ RP K ι H v x := by
  unfold L2.atI at h ⊢
  rw [r.length]
  cases hj : ixN xs.length i with
  | none => rw [hj] at h; cases h
  | some j =>
    rw [hj] at h
    exact r.get h
theorem strOk_at {s : Str} {i : Int} {c : Nat} (h : PyData.strOk s = true) (e : L2.atI s.cps.toList i = some c) : PyData.strOk ⟨#[c]⟩ = true := by
  obtain ⟨j, _, hj, _⟩ := atI_get e
  have hm : c ∈ s.cps := by
    have := List.mem_of_getElem? hj
    simpa using this
  unfold PyData.strOk at h ⊢
  rw [Array.all_eq_true_iff_forall_mem] at h
  have := h c hm
  simpa using this
theorem ix_ways {X : Cx} (hu : X.A.units + 65 < cLine) {a b : Expr} {pos : Pos} (hp : PlainIx b) (hn : NoSl b) : Ways2 X (.Subscript a b pos) a b gIx := fun x y S d S' e => by
  unfold gIx at e
  split at e
  · rename_i kvs hk
    split at e
    · rename_i y
      split at e
      · rename_i k hy
        split at e
        · rename_i z hz
          refine ⟨fun x y H2 Q => ∃ a v, x = .ref a ∧ DGet H2 a y (some v) ∧ Q v H2, fun ta tb ha hb => pe_dget (by omega) ha hb hn, fun ι H v w d S' Q wd r1 r2 e k' => ?_⟩
          unfold gIx at e
          simp only [hk, hy, hz] at e
          cases e
          obtain ⟨a, vs, rfl, h1, q1⟩ := wd.dct r1 hk
          obtain ⟨v, hv, rv⟩ := (q1.look k).1 z hz
          cases r2 with
          | p r2 =>
            cases r2.key hy
            exact ⟨a, v, rfl, by rw [← hv]; exact dgK h1, k' v ι H (.refl _ _) wd (.p rv)⟩
        · cases e
      · cases e
    · cases e
  · rename_i hk
    split at e
    · rename_i s i
      split at e
      · rename_i hl
        split at e
        · rename_i c hc
          refine ⟨_, fun ta tb ha hb => pe_ix ix_str ha hb hp, fun ι H v w d S' Q wd r1 r2 e k' => ?_⟩
          unfold gIx at e
          simp only [dicL, hl, hc, if_true] at e
          cases e
          obtain ⟨rfl, ho⟩ := r1.strD
          cases r2.intD
          exact ⟨s, i, c, rfl, rfl, hl, hc, k' _ ι H (.refl _ _) wd (.p (.str (strOk_at ho hc)))⟩
        · cases e
      · cases e
    · rename_i x i hx
      unfold gIxL at e
      split at e
      · rename_i xs hi
        split at e
        · rename_i z hz
          refine ⟨_, fun ta tb ha hb => pe_ix (ix_list.or ix_tup) ha hb hp, fun ι H v w d S' Q wd r1 r2 e k' => ?_⟩
          unfold gIx at e
          simp only [hk] at e
          unfold gIxL at e
          simp only [hi, hz] at e
          cases e
          obtain ⟨a, vs, rfl, h1, q1⟩ := wd.items r1 hi
          obtain ⟨u, hv, rv⟩ := q1.atI hz
          cases r2.intD
          rcases h1 with h1 | h1
          · exact .inl ⟨a, vs, _, u, rfl, rfl, h1, hv, k' u ι H (.refl _ _) wd (.p rv)⟩
          · exact .inr ⟨a, vs, _, u, rfl, rfl, h1, hv, k' u ι H (.refl _ _) wd (.p rv)⟩
        · cases e
      · cases e
    · cases e
section
variable {X : Cx} {a b : Expr} {ca cb : CE} {pos : Pos}
theorem re_ix (hu : X.A.units + 65 < cLine) (ha : PE X a (RdE X.K ca)) (hb : PE X b (RdE X.K cb)) (hp : PlainIx b := by exact fun _ _ => rfl) (hn : NoSl b := by exact fun _ _ => rfl) : PE X (.Subscript a b pos) (RdE X.K (c2 gIx ca cb)) := re2 (ix_ways hu hp hn) ha hb
end
end Cw
set_option Elab.async false
set_option linter.all false
set_option maxRecDepth 100000
set_option maxHeartbeats 4000000
/-! Cw6: slices, displays, arguments, built-ins, calls of defs. -/
namespace Cw
open PySem PySem.Spec PyProof.Rows L2

/-! ### slices -/
abbrev CO := Ev → Sto → R (Option Int)
def RdO (K : PySem.W.Frag) (c : CO) : TO := fun σ H Q => ∃ ι ρ S, Cf K ι H σ ρ S ∧ ∃ o S', c ρ S = .ok o S' ∧ ∀ ι' H', Step ι H ι' H' → Wd K ι' H' S' → Q o H'
theorem RdO.run {K : PySem.W.Frag} {ι : Lk} {H : Hp} {σ : L2.St} {ρ : Ev} {S : Sto} {c : CO} {d : Option Int} {S1 : Sto} {Q : Option Int → Hp → Prop} (cf : Cf K ι H σ ρ S) (e : c ρ S = .ok d S1) (k : ∀ ι1 H1, Step ι H ι1 H1 → Cf K ι1 H1 σ ρ S1 → Q d H1) : RdO K c σ H Q :=
  ⟨ι, ρ, S, cf, d, S1, e, fun ι' H' st wd => k ι' H' st (cf.step st wd)⟩
def cONone : CO := fun _ S => .ok none S
def cOSome (c : CE) : CO := fun ρ S => (c ρ S).bind fun d S1 => match d with
  | .p (.int i) => .ok (some i) S1
  | _ => .no
def cutP (xs : List P) (lo hi : Option Int) : List P := (xs.drop (HT.sIx xs.length 0 lo)).take (HT.sIx xs.length xs.length hi - HT.sIx xs.length 0 lo)
theorem RPs.cut {K : PySem.W.Frag} {ι : Lk} {H : Hp} {vs : List V} {xs : List P} (r : RPs K ι H vs xs) (lo hi : Option Int) : RPs K ι H (cutV vs lo hi) (cutP xs lo hi) := by
  unfold cutV cutP
  rw [r.length]
  exact (r.drop _).take _
theorem strOk_cut {s : Str} (h : PyData.strOk s = true) (lo hi : Option Int) : PyData.strOk (cutS s lo hi) = true := by
  unfold PyData.strOk at h ⊢
  rw [Array.all_eq_true_iff_forall_mem] at h ⊢
  intro x hx
  refine h x ?_
  have : x ∈ ((s.cps.toList.drop (HT.sIx s.length 0 lo)).take (HT.sIx s.length s.length hi - HT.sIx s.length 0 lo)) := by simpa [cutS] using hx
  simpa using List.mem_of_mem_drop (List.mem_of_mem_take this)
def gSl (x : D) (lo hi : Option Int) (S : Sto) : R D := match x with
  | .p (.tup xs) => .ok (.p (.tup (cutP xs lo hi))) S
  | .p (.str s) => if s.length ≤ sizeLine then .ok (.p (.str (cutS s lo hi))) S else .no
  | x => match seqA x S with
    | some xs => .ok (.p (.ro (cutP xs lo hi))) S
    | none => .no
def cSl (c : CE) (l h : CO) : CE := fun ρ S => (c ρ S).bind fun x S1 => (l ρ S1).bind fun lo S2 => (h ρ S2).bind fun hi S3 => gSl x lo hi S3
theorem cut_whole (vs : List V) (lo hi : Option Int) (h : HT.sIx vs.length 0 lo = 0 ∧ HT.sIx vs.length vs.length hi = vs.length) : cutV vs lo hi = vs := by
  unfold cutV
  rw [h.1, h.2, List.drop_zero, Nat.sub_zero, List.take_length]
section
variable {X : Cx} {a : Expr} {ca : CE} {lo hi : Option Expr} {cl ch : CO} {pos p2 : Pos}
theorem ro_none : PO X none (RdO X.K cONone) := ⟨fun pins s σ H Q I ⟨ι, ρ, S, cf, o, S', e, k⟩ => by
  cases e
  exact po_none.run pins s σ H Q I (k ι H (.refl _ _) cf.wd)⟩
theorem ro_some (h : PE X a (RdE X.K ca)) : PO X (some a) (RdO X.K (cOSome ca)) := ⟨fun pins s σ H Q I ⟨ι, ρ, S, cf, o, S', e, k⟩ => by
  refine (po_some h).run pins s σ H Q I ?_
  obtain ⟨x, S1, e1, e2⟩ := bind_ok e
  refine RdE.run cf e1 fun v ι1 H1 st1 cf1 r1 => ?_
  split at e2
  · cases e2
    exact ⟨_, r1.intD, k ι1 H1 st1 cf1.wd⟩
  · cases e2⟩
theorem re_slice (ha : PE X a (RdE X.K ca)) (hl : PO X lo (RdO X.K cl)) (hh : PO X hi (RdO X.K ch)) : PE X (.Subscript a (.Slice lo hi none p2) pos) (RdE X.K (cSl ca cl ch)) := by
  refine (pe_slice (sl_tupN.or (sl_str.or sl_list)) ha hl hh).weak fun σ H Q ⟨ι, ρ, S, cf, d, S', e, k⟩ => ?_
  obtain ⟨x, S1, e1, e2⟩ := bind_ok e
  obtain ⟨lo, S2, e3, e4⟩ := bind_ok e2
  obtain ⟨hi, S3, e5, e6⟩ := bind_ok e4
  refine RdE.run cf e1 fun v ι1 H1 st1 cf1 r1 => RdO.run cf1 e3 fun ι2 H2 st2 cf2 => RdO.run cf2 e5 fun ι3 H3 st3 cf3 => ?_
  have r3 := r1.mono (st2.trans st3)
  have st := (st1.trans st2).trans st3
  unfold gSl at e6
  split at e6
  · cases e6
    obtain ⟨a, vs, rfl, h1, q1⟩ := r3.tupD
    refine .inl ⟨a, vs, rfl, h1.sq, fun hw => ?_, fun _ p o hp hd => ?_⟩
    · refine k _ ι3 H3 st cf3.wd (.p (.tup h1 ?_))
      have := q1.cut lo hi
      rwa [cut_whole vs lo hi hw] at this
    · exact k _ ι3 _ (st.trans (Step.new1 cf3.wd hp _)) (cf3.wd.new1 hp _) (RD.newTup cf3.wd hp hd (q1.cut lo hi))
  · split at e6
    · rename_i hl
      cases e6
      obtain ⟨rfl, ho⟩ := r3.strD
      exact .inr (.inl ⟨_, rfl, hl, k _ ι3 H3 st cf3.wd (.p (.str (strOk_cut ho lo hi)))⟩)
    · cases e6
  · split at e6
    · rename_i xs hx
      cases e6
      obtain ⟨a, vs, rfl, h1, q1⟩ := cf3.wd.seqA r3 hx
      exact .inr (.inr ⟨a, vs, rfl, h1, fun p hp => k _ ι3 _ (st.trans (Step.new1 cf3.wd hp _)) (cf3.wd.new1 hp _) (RD.newRo cf3.wd hp (q1.cut lo hi))⟩)
    · cases e6
end

/-! ### arguments, displays -/
def cNil : CA := fun _ S => .ok [] S
def cCons (c : CE) (r : CA) : CA := fun ρ S => (c ρ S).bind fun x S1 => (r ρ S1).bind fun xs S2 => .ok (x :: xs) S2
/-- pure ones alone -/
def allP : List D → Option (List P)
  | [] => some []
  | .p x :: r => match allP r with
    | some xs => some (x :: xs)
    | none => none
  | .ref _ :: _ => none
theorem RDs.allP {K : PySem.W.Frag} {ι : Lk} {H : Hp} : ∀ {vs : List V} {ds : List D} {xs : List P}, RDs K ι H vs ds → Cw.allP ds = some xs → RPs K ι H vs xs
  | _, _, _, .nil, e => by cases e; exact .nil
  | _, _, _, .cons (x := .p y) r t, e => by
    unfold Cw.allP at e
    split at e
    · rename_i xs h
      cases e
      cases r with
      | p r => exact .cons r (t.allP h)
    · cases e
  | _, _, _, .cons (x := .ref n) r t, e => by cases e
def cTup (c : CA) : CE := fun ρ S => (c ρ S).bind fun ds S1 => match allP ds with
  | some xs => if xs.length ≤ sizeLine then .ok (.p (.tup xs)) S1 else .no
  | none => .no
def cLst (c : CA) : CN := fun ρ S => (c ρ S).bind fun ds S1 => match allP ds with
  | some xs => if xs.length ≤ sizeLine then .ok xs S1 else .no
  | none => .no
/-- a new list as one that stands, as a thing of the store -/
def cRo (c : CN) : CE := fun ρ S => (c ρ S).bind fun xs S1 => .ok (.p (.ro xs)) S1
def cTr (c : CN) : CE := fun ρ S => (c ρ S).bind fun xs S1 => .ok (.ref S1.length) (S1 ++ [.lst xs])
theorem PostN.intro {K : PySem.W.Frag} {ι ι1 : Lk} {H H1 : Hp} {S1 S' : Sto} {xs : List P} {vs : List V} {Q : VK} (st1 : Step ι H ι1 H1) (wd1 : Wd K ι1 H1 S1) (r : RPs K ι1 H1 vs xs) (e : S1 = S')
    (k : ∀ a vs ι' H', Step ι H ι' H' → Wd K (ι'.hide a) H' S' → H a = none → ¬ ι'.has a → H' a = some (.lst vs) → RPs K (ι'.hide a) H' vs xs → Q (.ref a) H') : ∀ p, H1 p = none → Q (.ref p) (upd H1 p (.lst vs)) := fun p hp => by
  subst e
  exact k p vs ι1 _ (st1.trans (Step.new1 wd1 hp _)) (wd1.hidden hp _) (st1.there p hp) (wd1.fresh hp) upd_same (r.hideNew wd1 hp)
theorem ix_old {ι : Lk} {a : Addr} {n : Nat} {o : Option Addr} (h : ι.ix[n]? = some o) : (ι.add a).ix[n]? = some o := by
  have hn : n < ι.ix.length := by
    rcases Nat.lt_or_ge n ι.ix.length with q | q
    · exact q
    · rw [List.getElem?_eq_none q] at h; cases h
  show (ι.ix ++ [some a])[n]? = some o
  rw [List.getElem?_append_left hn]; exact h
theorem ix_new {ι : Lk} {a : Addr} {n : Nat} {o : Option Addr} (h : (ι.add a).ix[n]? = some o) : ι.ix[n]? = some o ∨ (n = ι.ix.length ∧ o = some a) := by
  have h : (ι.ix ++ [some a])[n]? = some o := h
  rcases Nat.lt_or_ge n ι.ix.length with q | q
  · rw [List.getElem?_append_left q] at h; exact .inl h
  · rw [List.getElem?_append_right q] at h
    have : n - ι.ix.length = 0 := by
      rcases Nat.eq_zero_or_pos (n - ι.ix.length) with z | z
      · exact z
      · rw [List.getElem?_eq_none (by rw [List.length_singleton]; omega)] at h; cases h
    rw [this] at h
    cases h
    exact .inr ⟨by omega, rfl⟩
theorem Step.added {ι ι' : Lk} {H H' : Hp} {a : Addr} (st : Step ι H ι' H') (h1 : H a = none) : Step ι H (ι'.add a) H' where
  hid := st.hid
  len := by
    have := st.len
    show _ ≤ (ι'.ix ++ [some a]).length
    rw [List.length_append]; omega
  old := fun n o h => (st.old n o h).elim (fun q => .inl (ix_old q)) fun q => .inr (ix_old q)
  new := fun b hb => by
    rcases List.mem_append.mp hb with q | q
    · exact st.new b q
    · have : b = a := by simpa using q
      rw [this]; exact .inr h1
  keep := st.keep
  there := st.there
theorem Wd.added {K : PySem.W.Frag} {ι' : Lk} {H' : Hp} {S1 : Sto} {a : Addr} {vs : List V} {xs : List P} (wd : Wd K (ι'.hide a) H' S1) (h2 : ¬ ι'.has a) (h3 : H' a = some (.lst vs)) (r : RPs K (ι'.hide a) H' vs xs) : Wd K (ι'.add a) H' (S1 ++ [.lst xs]) where
  len := by
    have hlen : ι'.ix.length = S1.length := wd.len
    show (ι'.ix ++ [some a]).length = _
    rw [List.length_append, List.length_append, hlen]; rfl
  nd := fun n m b hn hm => by
    rcases ix_new hn with q | ⟨q, e⟩ <;> rcases ix_new hm with z | ⟨z, e'⟩
    · exact wd.nd n m b q z
    · cases e'; exact (h2 (.inl (List.mem_of_getElem? q))).elim
    · cases e; exact (h2 (.inl (List.mem_of_getElem? z))).elim
    · omega
  ob := fun n o h => by
    have hlen : ι'.ix.length = S1.length := wd.len
    rcases Nat.lt_or_ge n S1.length with q | q
    · rw [List.getElem?_append_left q] at h
      have w := wd.ob n o h
      have e : (ι'.add a).ix[n]? = ι'.ix[n]? := by
        show (ι'.ix ++ [some a])[n]? = _
        rw [List.getElem?_append_left (by omega)]
      rw [e]
      exact w.has fun _ => has_add
    · rw [List.getElem?_append_right q] at h
      have : n - S1.length = 0 := by
        rcases Nat.eq_zero_or_pos (n - S1.length) with z | z
        · exact z
        · rw [List.getElem?_eq_none (by rw [List.length_singleton]; omega)] at h; cases h
      rw [this] at h
      cases h
      have e : (ι'.add a).ix[n]? = some (some a) := by
        show (ι'.ix ++ [some a])[n]? = _
        rw [List.getElem?_append_right (by omega)]
        have : n - ι'.ix.length = 0 := by omega
        rw [this]; rfl
      rw [e]
      exact .lst h3 (r.has fun _ => has_add)
  hd := fun b hb => by
    have w := wd.hd b (List.mem_cons_of_mem _ hb)
    refine ⟨w.1, fun q => ?_⟩
    rcases List.mem_append.mp q with q | q
    · exact w.2 q
    · have : b = a := by simpa using q
      subst this
      exact h2 (.inr hb)
section
variable {X : Cx} {a : Expr} {es : List Expr} {ca : CE} {cr : CA} {cn : CN} {pos : Pos}
theorem ra_nil : PA X [] (RdA X.K cNil) := pa_nil.weak fun σ H Q ⟨ι, ρ, S, cf, d, S', e, k⟩ => by
  cases e
  exact k [] ι H (.refl _ _) cf.wd .nil
theorem ra_cons (ha : PE X a (RdE X.K ca)) (hr : PA X es (RdA X.K cr)) (hs : starEach (a :: es) X.env = (false, eval a X.env) :: starEach es X.env := by rfl) : PA X (a :: es) (RdA X.K (cCons ca cr)) := (pa_cons ha hr hs).weak fun σ H Q ⟨ι, ρ, S, cf, d, S', e, k⟩ => by
  obtain ⟨x, S1, e1, e2⟩ := bind_ok e
  obtain ⟨xs, S2, e3, e4⟩ := bind_ok e2
  cases e4
  exact RdE.run cf e1 fun v ι1 H1 st1 cf1 r1 => RdA.run cf1 e3 fun vs ι2 H2 st2 cf2 r2 => k _ ι2 H2 (st1.trans st2) cf2.wd (.cons (r1.mono st2) r2)
theorem re_tup {x1} (ha : PA X es (RdA X.K cr)) : PE X (.Tuple es x1 pos) (RdE X.K (cTup cr)) := (pe_tupN ha).weak fun σ H Q ⟨ι, ρ, S, cf, d, S', e, k⟩ => by
  obtain ⟨ds, S1, e1, e2⟩ := bind_ok e
  refine RdA.run cf e1 fun vs ι1 H1 st1 cf1 r1 => ?_
  split at e2
  · rename_i xs hx
    split at e2
    · rename_i hl
      cases e2
      have q := r1.allP hx
      exact ⟨by rw [q.length]; exact hl, fun p o hp hd => k _ ι1 _ (st1.trans (Step.new1 cf1.wd hp _)) (cf1.wd.new1 hp _) (RD.newTup cf1.wd hp hd q)⟩
    · cases e2
  · cases e2
theorem rn_lst (ha : PA X es (RdA X.K cr)) : PE X (.List es pos) (RdN X.K (cLst cr)) := (pe_lst ha).weak fun σ H Q ⟨ι, ρ, S, cf, d, S', e, k⟩ => by
  obtain ⟨ds, S1, e1, e2⟩ := bind_ok e
  refine RdA.run cf e1 fun vs ι1 H1 st1 cf1 r1 => ?_
  split at e2
  · rename_i xs hx
    split at e2
    · rename_i hl
      cases e2
      have q := r1.allP hx
      exact ⟨by rw [q.length]; exact hl, PostN.intro st1 cf1.wd q rfl k⟩
    · cases e2
  · cases e2
theorem re_ro (h : PE X a (RdN X.K cn)) : PE X a (RdE X.K (cRo cn)) := h.weak fun σ H Q ⟨ι, ρ, S, cf, d, S', e, k⟩ => by
  obtain ⟨xs, S1, e1, e2⟩ := bind_ok e
  cases e2
  refine ⟨ι, ρ, S, cf, xs, S', e1, fun a vs ι' H' st wd h1 h2 h3 r => ?_⟩
  exact k _ ι' H' st wd.unhide (.p (.ro (.inl h3) h2 (r.has (hide_has ι' a))))
theorem re_tr (h : PE X a (RdN X.K cn)) : PE X a (RdE X.K (cTr cn)) := h.weak fun σ H Q ⟨ι, ρ, S, cf, d, S', e, k⟩ => by
  obtain ⟨xs, S1, e1, e2⟩ := bind_ok e
  cases e2
  refine ⟨ι, ρ, S, cf, xs, S1, e1, fun a vs ι' H' st wd h1 h2 h3 r => ?_⟩
  have hlen : ι'.ix.length = S1.length := wd.len
  have hat : (ι'.ix ++ [some a])[S1.length]? = some (some a) := by rw [← hlen, List.getElem?_append_right (Nat.le_refl _), Nat.sub_self]; rfl
  exact k _ (ι'.add a) H' (Step.added st h1) (Wd.added wd h2 h3 r) (.ref (n := S1.length) (o := some a) hat fun b z => by cases z; rfl)
end
end Cw
set_option Elab.async false
set_option linter.all false
set_option maxRecDepth 100000
set_option maxHeartbeats 4000000
/-! Cw7: built-ins called by name. -/
namespace Cw
open PySem PySem.Spec PyProof.Rows L2

def LkC (K : PySem.W.Frag) (r : List V → Hp → VK → Prop) (g : List D → Sto → R D) (ds : List D) (S : Sto) : Prop :=
  ∀ (ι : Lk) (H : Hp) (vs : List V) (d : D) (S' : Sto) (Q : VK), Wd K ι H S → RDs K ι H vs ds → g ds S = .ok d S' → (∀ z ι' H', Step ι H ι' H' → Wd K ι' H' S' → RD K ι' H' z d → Q z H') → r vs H Q
def WaysC (X : Cx) (f : Value) (g : List D → Sto → R D) : Prop := ∀ ds S d S', g ds S = .ok d S' → ∃ r, CallR X f r ∧ LkC X.K r g ds S
def c1 (g : List D → Sto → R D) (ca : CA) : CE := fun ρ S => (ca ρ S).bind g
section
variable {X : Cx} {x : Str} {p pos : Pos} {e : Expr} {es : List Expr} {ca : CA} {id T : String} {g : List D → Sto → R D}
theorem re_callB (w : WaysC X (.builtin id) g) (hg : Gl X x) (hm : X.mg x = none) (hv : bootBuiltins x = some (.builtin id)) (ha : PA X (e :: es) (RdA X.K ca)) (hn : x ≠ "__name__" := by decide) (hdb : (x == ("__debug__" : Str)) = false := by decide)
    (he : starEach (e :: es) X.env = (false, eval e X.env) :: starEach es X.env := by rfl) (hpl : (backTo pos (starEach es X.env)).any (·.1) = false := by rfl) : PE X (.Call (.Name x p) (e :: es) [] pos) (RdE X.K (c1 g ca)) := by
  refine ⟨fun pins s σ H Q I ⟨ι, ρ, S, cf, d, S', e0, k⟩ => ?_⟩
  obtain ⟨ds, S1, e1, e2⟩ := bind_ok e0
  obtain ⟨r, hr, hl⟩ := w ds S1 d S' e2
  refine (pe_callB hr hg hm hv ha hn hdb he hpl).run pins s σ H Q I ?_
  exact RdA.run cf e1 fun vs ι1 H1 st1 cf1 r1 => hl ι1 H1 vs d S' Q cf1.wd r1 e2 fun z ι' H' st wd rz => k z ι' H' (st1.trans st) wd rz
theorem re_callTy (w : WaysC X (.type T) g) (hg : Gl X x) (hm : X.mg x = none) (hv : bootBuiltins x = some (.type T)) (ha : PA X (e :: es) (RdA X.K ca)) (hn : x ≠ "__name__" := by decide) (hdb : (x == ("__debug__" : Str)) = false := by decide)
    (he : starEach (e :: es) X.env = (false, eval e X.env) :: starEach es X.env := by rfl) (hpl : (backTo pos (starEach es X.env)).any (·.1) = false := by rfl) : PE X (.Call (.Name x p) (e :: es) [] pos) (RdE X.K (c1 g ca)) := by
  refine ⟨fun pins s σ H Q I ⟨ι, ρ, S, cf, d, S', e0, k⟩ => ?_⟩
  obtain ⟨ds, S1, e1, e2⟩ := bind_ok e0
  obtain ⟨r, hr, hl⟩ := w ds S1 d S' e2
  refine (pe_callTy hr hg hm hv ha hn hdb he hpl).run pins s σ H Q I ?_
  exact RdA.run cf e1 fun vs ι1 H1 st1 cf1 r1 => hl ι1 H1 vs d S' Q cf1.wd r1 e2 fun z ι' H' st wd rz => k z ι' H' (st1.trans st) wd rz
end
section
variable {K : PySem.W.Frag} {ι : Lk} {H : Hp}
theorem RDs.one {vs : List V} {d : D} (r : RDs K ι H vs [d]) : ∃ v, vs = [v] ∧ RD K ι H v d := by
  cases r with
  | cons r t => cases t; exact ⟨_, rfl, r⟩
theorem RDs.two {vs : List V} {d e : D} (r : RDs K ι H vs [d, e]) : ∃ v w, vs = [v, w] ∧ RD K ι H v d ∧ RD K ι H w e := by
  cases r with
  | cons r t => cases t with
    | cons q t => cases t; exact ⟨_, _, rfl, r, q⟩
end
/-! ### len -/
theorem len_rd {X : Cx} : CallR X (.builtin "len") (fun xs H Q => ∃ a kvs, xs = [.ref a] ∧ Rd H a (.dK kvs) ∧ Q (.int (kvs.length : Nat)) H) := by
  rintro pins s σ H xs us Q I r ⟨a, kvs, rfl, h, q⟩
  obtain rfl := Vals.ref1 r
  exact d_len I h fun t s' I' => ⟨.int kvs.length, H, I', ⟨t, rfl⟩, q⟩
def gLen : List D → Sto → R D
  | [.p (.str s)], S => if s.length ≤ sizeLine then .ok (.p (.int (s.length : Nat))) S else .no
  | [d], S => match itemsA d S with
    | some xs => .ok (.p (.int (xs.length : Nat))) S
    | none => match dicL d S with
      | some kvs => .ok (.p (.int (kvs.length : Nat))) S
      | none => .no
  | _, _ => .no
theorem w_len {X : Cx} : WaysC X (.builtin "len") gLen := fun ds S d S' e => by
  unfold gLen at e
  split at e
  · split at e
    · rename_i s hl
      refine ⟨_, call_len, fun ι H vs d S' Q wd rs e k => ?_⟩
      simp only [gLen, hl, if_true] at e
      cases e
      obtain ⟨v, rfl, r⟩ := rs.one
      obtain ⟨rfl, _⟩ := r.strD
      exact ⟨_, _, rfl, ⟨hl, rfl⟩, k _ ι H (.refl _ _) wd (.p (.int _))⟩
    · cases e
  · rename_i d _ _ hns
    split at e
    · rename_i xs hx
      refine ⟨_, call_len, fun ι H vs d S' Q wd rs e k => ?_⟩
      rw [gLen] at e
      · simp only [hx] at e
        cases e
        obtain ⟨v, rfl, r⟩ := rs.one
        obtain ⟨a, us, rfl, h, q⟩ := wd.items r hx
        refine ⟨_, us.length, rfl, ?_, by rw [q.length]; exact k _ ι H (.refl _ _) wd (.p (.int _))⟩
        rcases h with h | h
        · exact .inl ⟨us, h, rfl⟩
        · exact .inr ⟨us, h, rfl⟩
      · exact hns
    · rename_i hx
      split at e
      · rename_i kvs hk
        refine ⟨_, len_rd, fun ι H vs d S' Q wd rs e k => ?_⟩
        rw [gLen] at e
        · simp only [hx, hk] at e
          cases e
          obtain ⟨v, rfl, r⟩ := rs.one
          obtain ⟨a, us, rfl, h, q⟩ := wd.dct r hk
          exact ⟨a, us, rfl, h, by rw [q.length]; exact k _ ι H (.refl _ _) wd (.p (.int _))⟩
        · exact hns
      · cases e
  · cases e
/-! ### tuple(x), list(x) -/
def gTuple : List D → Sto → R D
  | [d], S => match itemsA d S with
    | some xs => .ok (.p (.tup xs)) S
    | none => .no
  | _, _ => .no
theorem w_tuple {X : Cx} : WaysC X (.type "tuple") gTuple := fun ds S d S' e => by
  unfold gTuple at e
  split at e
  · rename_i d
    split at e
    · rename_i xs hx
      cases e
      refine ⟨_, call_tupleN, fun ι H vs d S' Q wd rs e k => ?_⟩
      simp only [gTuple, hx] at e
      cases e
      obtain ⟨v, rfl, r⟩ := rs.one
      cases d with
      | p y =>
        cases y with
        | tup ys =>
          cases hx
          obtain ⟨a, us, rfl, h, q⟩ := r.tupD
          exact ⟨a, us, rfl, .inr ⟨h.sq, k _ ι H (.refl _ _) wd (.p (.tup h q))⟩⟩
        | ro ys =>
          obtain ⟨a, us, rfl, h, q⟩ := wd.seqA r hx
          exact ⟨a, us, rfl, .inl ⟨h, fun p o hp hd => k _ ι _ (Step.new1 wd hp _) (wd.new1 hp _) (RD.newTup wd hp hd q)⟩⟩
        | scr ys =>
          obtain ⟨a, us, rfl, h, q⟩ := wd.seqA r hx
          exact ⟨a, us, rfl, .inl ⟨h, fun p o hp hd => k _ ι _ (Step.new1 wd hp _) (wd.new1 hp _) (RD.newTup wd hp hd q)⟩⟩
        | _ => cases hx
      | ref n =>
        obtain ⟨a, us, rfl, h, q⟩ := wd.seqA r hx
        exact ⟨a, us, rfl, .inl ⟨h, fun p o hp hd => k _ ι _ (Step.new1 wd hp _) (wd.new1 hp _) (RD.newTup wd hp hd q)⟩⟩
    · cases e
  · cases e
def gListR : List D → Sto → R D
  | [d], S => match itemsA d S with
    | some xs => .ok (.p (.ro xs)) S
    | none => .no
  | _, _ => .no
theorem w_listR {X : Cx} : WaysC X (.type "list") gListR := fun ds S d S' e => by
  unfold gListR at e
  split at e
  · rename_i d _
    split at e
    · rename_i xs hx
      cases e
      refine ⟨_, call_list_of, fun ι H vs d S' Q wd rs e k => ?_⟩
      simp only [gListR, hx] at e
      cases e
      obtain ⟨v, rfl, r⟩ := rs.one
      obtain ⟨a, us, rfl, h, q⟩ := wd.items r hx
      exact ⟨a, us, rfl, h, fun p hp => k _ ι _ (Step.new1 wd hp _) (wd.new1 hp _) (RD.newRo wd hp q)⟩
    · cases e
  · cases e
/-! ### all, any, sum, max, min -/
def blsP : List P → Option (List Bool)
  | [] => some []
  | .bl b :: r => (blsP r).map (b :: ·)
  | _ :: _ => none
def intsP : List P → Option (List Int)
  | [] => some []
  | .int b :: r => (intsP r).map (b :: ·)
  | _ :: _ => none
def strsP : List P → Option (List Str)
  | [] => some []
  | .str b :: r => (strsP r).map (b :: ·)
  | _ :: _ => none
section
variable {K : PySem.W.Frag} {ι : Lk} {H : Hp}
theorem RPs.bls : ∀ {vs : List V} {xs : List P} {bs : List Bool}, RPs K ι H vs xs → blsP xs = some bs → vs = bs.map V.bl
  | _, _, _, .nil, e => by cases e; rfl
  | _, _, _, .cons r t, e => by
    cases r with
    | bl b =>
      simp only [blsP] at e
      obtain ⟨r', h, e2⟩ := Option.map_eq_some_iff.mp e
      subst e2
      rw [t.bls h]; rfl
    | _ => cases e
theorem RPs.ints : ∀ {vs : List V} {xs : List P} {bs : List Int}, RPs K ι H vs xs → intsP xs = some bs → vs = bs.map V.int
  | _, _, _, .nil, e => by cases e; rfl
  | _, _, _, .cons r t, e => by
    cases r with
    | int b =>
      simp only [intsP] at e
      obtain ⟨r', h, e2⟩ := Option.map_eq_some_iff.mp e
      subst e2
      rw [t.ints h]; rfl
    | _ => cases e
theorem RPs.strs : ∀ {vs : List V} {xs : List P} {bs : List Str}, RPs K ι H vs xs → strsP xs = some bs → vs = bs.map V.str ∧ ∀ s ∈ bs, PyData.strOk s = true
  | _, _, _, .nil, e => by cases e; exact ⟨rfl, by simp⟩
  | _, _, _, .cons r t, e => by
    cases r with
    | str h1 =>
      simp only [strsP] at e
      obtain ⟨r', h, e2⟩ := Option.map_eq_some_iff.mp e
      subst e2
      have ⟨q1, q2⟩ := t.strs h
      rw [q1]
      exact ⟨rfl, fun s hs => (List.mem_cons.mp hs).elim (fun e => e ▸ h1) (q2 s)⟩
    | _ => cases e
end
def gBls (f : List Bool → Bool) : List D → Sto → R D
  | [d], S => match (seqA d S).bind blsP with
    | some bs => .ok (.p (.bl (f bs))) S
    | none => .no
  | _, _ => .no
def gAll := gBls fun bs => bs.all id
def gAny := gBls fun bs => bs.any id
theorem ways_bls {X : Cx} {id : String} {f : List Bool → Bool} (h : CallR X (.builtin id) fun vs H Q => ∃ (a : Addr) (bs : List Bool), vs = [V.ref a] ∧ SqL X.K H a (bs.map V.bl) ∧ Q (.bl (f bs)) H) : WaysC X (.builtin id) (gBls f) := fun ds S d S' e => by
  unfold gBls at e
  split at e
  · rename_i d _
    split at e
    · rename_i bs hb
      cases e
      refine ⟨_, h, fun ι H vs d S' Q wd rs e k => ?_⟩
      simp only [gBls, hb] at e
      cases e
      obtain ⟨v, rfl, r⟩ := rs.one
      obtain ⟨xs, hx, hb⟩ := Option.bind_eq_some_iff.mp hb
      obtain ⟨a, us, rfl, h, q⟩ := wd.seqA r hx
      exact ⟨a, bs, rfl, by rw [← q.bls hb]; exact h, k _ ι H (.refl _ _) wd (.p (.bl _))⟩
    · cases e
  · cases e
theorem w_all {X : Cx} (hc : X.calm = true) : WaysC X (.builtin "all") gAll := ways_bls (cr_all hc)
theorem w_any {X : Cx} (hc : X.calm = true) : WaysC X (.builtin "any") gAny := ways_bls (cr_any hc)
/-- the greatest, the least -/
def maxL : List Int → Int
  | [] => 0
  | [x] => x
  | x :: r => max x (maxL r)
def minL : List Int → Int
  | [] => 0
  | [x] => x
  | x :: r => min x (minL r)
theorem maxL_spec : ∀ (ns : List Int) (m : Int), m ∈ ns → (∀ y, y ∈ ns → y ≤ m) → m = maxL ns
  | [], _, h, _ => nomatch h
  | [x], m, h, _ => by simpa [maxL, minL] using h
  | x :: y :: r, m, h, k => by
    have ih := maxL_spec (y :: r)
    have hmax : maxL (x :: y :: r) = max x (maxL (y :: r)) := rfl
    rw [hmax]
    have mem : ∀ l : List Int, l ≠ [] → maxL l ∈ l ∧ ∀ z ∈ l, z ≤ maxL l := by
      intro l
      induction l with
      | nil => intro h; exact absurd rfl h
      | cons a t iht =>
        intro _
        cases t with
        | nil => simp [maxL]
        | cons b t =>
          have ⟨i1, i2⟩ := iht (by simp)
          have e : maxL (a :: b :: t) = max a (maxL (b :: t)) := rfl
          rw [e]
          refine ⟨?_, fun z hz => ?_⟩
          · rcases Int.le_total a (maxL (b :: t)) with q | q
            · rw [Int.max_eq_right q]; exact List.mem_cons_of_mem _ i1
            · rw [Int.max_eq_left q]; exact List.mem_cons_self
          · rcases List.mem_cons.mp hz with e | hz
            · subst e; exact Int.le_max_left _ _
            · exact Int.le_trans (i2 z hz) (Int.le_max_right _ _)
    have ⟨m1, m2⟩ := mem (x :: y :: r) (by simp)
    rw [hmax] at m1 m2
    exact Int.le_antisymm (m2 m h) (k _ m1)
theorem minL_spec : ∀ (ns : List Int) (m : Int), m ∈ ns → (∀ y, y ∈ ns → m ≤ y) → m = minL ns
  | [], _, h, _ => nomatch h
  | [x], m, h, _ => by simpa [maxL, minL] using h
  | x :: y :: r, m, h, k => by
    have hmax : minL (x :: y :: r) = min x (minL (y :: r)) := rfl
    rw [hmax]
    have mem : ∀ l : List Int, l ≠ [] → minL l ∈ l ∧ ∀ z ∈ l, minL l ≤ z := by
      intro l
      induction l with
      | nil => intro h; exact absurd rfl h
      | cons a t iht =>
        intro _
        cases t with
        | nil => simp [minL]
        | cons b t =>
          have ⟨i1, i2⟩ := iht (by simp)
          have e : minL (a :: b :: t) = min a (minL (b :: t)) := rfl
          rw [e]
          refine ⟨?_, fun z hz => ?_⟩
          · rcases Int.le_total a (minL (b :: t)) with q | q
            · rw [Int.min_eq_left q]; exact List.mem_cons_self
            · rw [Int.min_eq_right q]; exact List.mem_cons_of_mem _ i1
          · rcases List.mem_cons.mp hz with e | hz
            · subst e; exact Int.min_le_left _ _
            · exact Int.le_trans (Int.min_le_right _ _) (i2 z hz)
    have ⟨m1, m2⟩ := mem (x :: y :: r) (by simp)
    rw [hmax] at m1 m2
    exact Int.le_antisymm (k _ m1) (m2 m h)
def gIntsOf (C : List Int → Bool) (f : List Int → Int) (d : D) (S : Sto) : R D := match (seqA d S).bind intsP with
  | some bs => if C bs then .ok (.p (.int (f bs))) S else .no
  | none => .no
def gMax : List D → Sto → R D
  | [.p (.int i), .p (.int j)], S => .ok (.p (.int (max i j))) S
  | [d], S => gIntsOf (fun ns => decide (0 < ns.length)) maxL d S
  | _, _ => .no
def gMin : List D → Sto → R D
  | [.p (.int i), .p (.int j)], S => .ok (.p (.int (min i j))) S
  | [d], S => gIntsOf (fun ns => decide (0 < ns.length)) minL d S
  | _, _ => .no
def gSum : List D → Sto → R D
  | [d], S => gIntsOf (fun _ => true) List.sum d S
  | _, _ => .no
theorem lk_ints {X : Cx} {C : List Int → Bool} {f : List Int → Int} {d : D} {S : Sto} {ι : Lk} {H : Hp} {v : V} {z : D} {S' : Sto} {Q : VK} (wd : Wd X.K ι H S) (r : RD X.K ι H v d) (e : gIntsOf C f d S = .ok z S') (k : ∀ w ι' H', Step ι H ι' H' → Wd X.K ι' H' S' → RD X.K ι' H' w z → Q w H') :
    ∃ (a : Addr) (ns : List Int), v = .ref a ∧ SqL X.K H a (ns.map V.int) ∧ C ns = true ∧ Q (.int (f ns)) H := by
  unfold gIntsOf at e
  split at e
  · rename_i bs hb
    split at e
    · rename_i hc
      cases e
      obtain ⟨xs, hx, hb⟩ := Option.bind_eq_some_iff.mp hb
      obtain ⟨a, us, rfl, h, q⟩ := wd.seqA r hx
      exact ⟨a, bs, rfl, by rw [← q.ints hb]; exact h, hc, k _ ι H (.refl _ _) wd (.p (.int _))⟩
    · cases e
  · cases e
theorem w_max {X : Cx} (hc : X.calm = true) : WaysC X (.builtin "max") gMax := fun ds S d S' e => by
  unfold gMax at e
  split at e
  · rename_i i j
    refine ⟨_, call_max2 hc, fun ι H vs d S' Q wd rs e k => ?_⟩
    simp only [gMax] at e
    cases e
    obtain ⟨v, w, rfl, r1, r2⟩ := rs.two
    cases r1.intD; cases r2.intD
    refine ⟨_, _, rfl, ?_⟩
    have : (if j > i then j else i) = max i j := by
      by_cases h : j > i
      · rw [if_pos h, Int.max_eq_right (by omega)]
      · rw [if_neg h, Int.max_eq_left (by omega)]
    rw [this]
    exact k _ ι H (.refl _ _) wd (.p (.int _))
  · rename_i d
    refine ⟨_, cr_max hc, fun ι H vs z S' Q wd rs e k => ?_⟩
    simp only [gMax] at e
    obtain ⟨v, rfl, r⟩ := rs.one
    obtain ⟨a, ns, rfl, h1, h2, q⟩ := lk_ints wd r e k
    exact ⟨a, ns, rfl, h1, of_decide_eq_true h2, fun m h h' => by rw [maxL_spec ns m h h']; exact q⟩
  · cases e
theorem w_min {X : Cx} (hc : X.calm = true) : WaysC X (.builtin "min") gMin := fun ds S d S' e => by
  unfold gMin at e
  split at e
  · rename_i i j
    refine ⟨_, call_min2 hc, fun ι H vs d S' Q wd rs e k => ?_⟩
    simp only [gMin] at e
    cases e
    obtain ⟨v, w, rfl, r1, r2⟩ := rs.two
    cases r1.intD; cases r2.intD
    refine ⟨_, _, rfl, ?_⟩
    have : (if j < i then j else i) = min i j := by
      by_cases h : j < i
      · rw [if_pos h, Int.min_eq_right (by omega)]
      · rw [if_neg h, Int.min_eq_left (by omega)]
    rw [this]
    exact k _ ι H (.refl _ _) wd (.p (.int _))
  · rename_i d
    refine ⟨_, cr_min hc, fun ι H vs z S' Q wd rs e k => ?_⟩
    simp only [gMin] at e
    obtain ⟨v, rfl, r⟩ := rs.one
    obtain ⟨a, ns, rfl, h1, h2, q⟩ := lk_ints wd r e k
    exact ⟨a, ns, rfl, h1, of_decide_eq_true h2, fun m h h' => by rw [minL_spec ns m h h']; exact q⟩
  · cases e
theorem w_sum {X : Cx} (hc : X.calm = true) : WaysC X (.builtin "sum") gSum := fun ds S d S' e => by
  unfold gSum at e
  split at e
  · rename_i d
    refine ⟨_, cr_sum hc, fun ι H vs z S' Q wd rs e k => ?_⟩
    simp only [gSum] at e
    obtain ⟨v, rfl, r⟩ := rs.one
    obtain ⟨a, ns, rfl, h1, h2, q⟩ := lk_ints wd r e k
    exact ⟨a, ns, rfl, h1, q⟩
  · cases e
/-! ### int(x), abs(x) -/
def gIntOf : List D → Sto → R D
  | [.p (.int i)], S => .ok (.p (.int i)) S
  | [.p (.bl b)], S => .ok (.p (.int (if b then 1 else 0))) S
  | _, _ => .no
theorem w_int {X : Cx} : WaysC X (.type "int") gIntOf := fun ds S d S' e => by
  refine ⟨_, call_int1, fun ι H vs d S' Q wd rs e k => ?_⟩
  unfold gIntOf at e
  split at e
  · cases e
    obtain ⟨v, rfl, r⟩ := rs.one
    cases r.intD
    exact .inl ⟨_, rfl, k _ ι H (.refl _ _) wd (.p (.int _))⟩
  · cases e
    obtain ⟨v, rfl, r⟩ := rs.one
    cases r.blD
    exact .inr ⟨_, rfl, k _ ι H (.refl _ _) wd (.p (.int _))⟩
  · cases e
def gAbs : List D → Sto → R D
  | [.p (.int i)], S => .ok (.p (.int (if i < 0 then -i else i))) S
  | _, _ => .no
theorem w_abs {X : Cx} : WaysC X (.builtin "abs") gAbs := fun ds S d S' e => by
  refine ⟨_, call_abs, fun ι H vs d S' Q wd rs e k => ?_⟩
  unfold gAbs at e
  split at e
  · cases e
    obtain ⟨v, rfl, r⟩ := rs.one
    cases r.intD
    exact ⟨_, rfl, k _ ι H (.refl _ _) wd (.p (.int _))⟩
  · cases e
/-! ### isinstance(x, T) -/
def tyN : D → Sto → Option String
  | .p .non, _ => some "NoneType"
  | .p (.bl _), _ => some "bool"
  | .p (.int _), _ => some "int"
  | .p (.str _), _ => some "str"
  | .p (.tup _), _ => some "tuple"
  | .p (.ro _), _ => some "list"
  | .p (.scr _), _ => some "list"
  | .p (.dic _), _ => some "dict"
  | .ref n, S => match S[n]? with
    | some (.lst _) => some "list"
    | some (.dic _) => some "dict"
    | _ => none
def cIsi (T : String) (c : CE) : CE := fun ρ S => (c ρ S).bind fun d S1 => match (tyN d S1).bind fun t => kitB t T with
  | some b => .ok (.p (.bl b)) S1
  | none => .no
theorem ty_of {K : PySem.W.Frag} {ι : Lk} {H : Hp} {S : Sto} (wd : Wd K ι H S) {v : V} {d : D} {t : String} (r : RD K ι H v d) (e : tyN d S = some t) : TyX K H v (.type t) := by
  cases d with
  | p x =>
    cases r with
    | p r =>
      cases r with
      | non => cases e; exact .base .non
      | bl b => cases e; exact .base (.bl b)
      | int b => cases e; exact .base (.int b)
      | str b => cases e; exact .base (.str _)
      | tup h _ =>
        cases e
        rcases h with ⟨⟨o, _, h⟩, _⟩ | ⟨o, _, _, h1, h2, _⟩
        · exact .fTuple h
        · exact .kTuple h1 h2
      | ro h _ _ =>
        cases e
        rcases h with h | ⟨o, h⟩
        · exact .base (.lst h)
        · exact .base (.frz h)
      | scr h _ =>
        cases e
        rcases h with ⟨h | ⟨o, h⟩, _⟩ | h
        · exact .base (.lst h)
        · exact .base (.frz h)
        · rcases h with (h | ⟨_, h⟩) | ⟨o, _, _, h1, h2, _⟩
          · cases h
          · cases h
          · exact .kList h1 h2
      | dic h _ _ =>
        cases e
        rcases h with h | ⟨_, h⟩
        · exact .base (.dK h)
        · exact .fDict h
  | ref n =>
    simp only [tyN] at e
    split at e
    · rename_i xs hx
      cases e
      obtain ⟨a, vs, rfl, _, h, _⟩ := wd.lst r hx
      exact .base (.lst h)
    · rename_i xs hx
      cases e
      obtain ⟨a, vs, rfl, _, h, _⟩ := wd.dict r hx
      exact .base (.dK h)
    · cases e
theorem re_isi {X : Cx} {a : Expr} {ca : CE} {T : String} {y : Str} {p p2 pos : Pos} (hg : Gl X "isinstance") (hm : X.mg "isinstance" = none) (hg2 : Gl X y) (hm2 : X.mg y = none) (hv : bootBuiltins y = some (.type T)) (ha : PE X a (RdE X.K ca))
    (hn : y ≠ "__name__" := by decide) (hd : (y == ("__debug__" : Str)) = false := by decide)
    (hs : starEach (a :: [.Name y p2]) X.env = (false, eval a X.env) :: starEach [.Name y p2] X.env := by rfl)
    (hs2 : starEach (.Name y p2 :: []) X.env = (false, eval (.Name y p2) X.env) :: starEach [] X.env := by rfl)
    (hpl : (backTo pos (starEach [.Name y p2] X.env)).any (·.1) = false := by rfl) :
    PE X (.Call (.Name "isinstance" p) [a, .Name y p2] [] pos) (RdE X.K (cIsi T ca)) := by
  refine (pe_callB call_isi hg hm (by decide +kernel) (pa_cons ha (pa_cons (pe_bltn (v := .ty T) hg2 hm2 hv rfl hn hd) pa_nil hs2) hs) (by decide) (by decide) hs hpl).weak fun σ H Q ⟨ι, ρ, S, cf, d, S', e, k⟩ => ?_
  obtain ⟨x, S1, e1, e2⟩ := bind_ok e
  refine RdE.run cf e1 fun v ι1 H1 st1 cf1 r1 => ?_
  split at e2
  · rename_i b hb
    cases e2
    obtain ⟨t, ht, hk⟩ := Option.bind_eq_some_iff.mp hb
    exact ⟨v, .ty T, _, _, b, rfl, .ty T, ty_of cf1.wd r1 ht, kit_ty hk, k _ ι1 H1 st1 cf1.wd (.p (.bl _))⟩
  · cases e2
end Cw
set_option Elab.async false
set_option linter.all false
set_option maxRecDepth 100000
set_option maxHeartbeats 4000000
/-! Cw8: statements, loops, comprehensions. -/
namespace Cw
open PySem PySem.Spec PyProof.Rows L2

inductive Fl where
  | nx (ρ : Ev) | rt (d : D) | bk (ρ : Ev) | ct (ρ : Ev)
abbrev CS := Ev → Sto → R Fl
section
variable (K : PySem.W.Frag)
def PostS (ι : Lk) (H : Hp) (r : R Fl) (E : Ends) : Prop := ∃ f S', r = .ok f S' ∧ match f with
  | .nx ρ' => ∀ σ' ι' H', Step ι H ι' H' → Cf K ι' H' σ' ρ' S' → E.nx σ' H'
  | .rt d => ∀ v ι' H', Step ι H ι' H' → Wd K ι' H' S' → RD K ι' H' v d → E.rt v H'
  | .bk ρ' => ∀ σ' ι' H', Step ι H ι' H' → Cf K ι' H' σ' ρ' S' → E.bk σ' H'
  | .ct ρ' => ∀ σ' ι' H', Step ι H ι' H' → Cf K ι' H' σ' ρ' S' → E.ct σ' H'
def RdS (c : CS) : TS := fun E σ H => ∃ ι ρ S, Cf K ι H σ ρ S ∧ PostS K ι H (c ρ S) E
end
theorem _root_.L2.PS.weak {X : Cx} {e : Stmt} {t t' : TS} (h : PS X e t) (k : ∀ E σ H, t' E σ H → t E σ H) : PS X e t' := ⟨fun pins s σ H E I q => h.run pins s σ H E I (k E σ H q)⟩
theorem _root_.L2.PSs.weak {X : Cx} {e : List Stmt} {t t' : TS} (h : PSs X e t) (k : ∀ E σ H, t' E σ H → t E σ H) : PSs X e t' := ⟨fun pins s σ H E I q => h.run pins s σ H E I (k E σ H q)⟩
section
variable {K : PySem.W.Frag} {ι : Lk} {H : Hp} {σ : L2.St} {ρ : Ev} {S : Sto}
theorem PostS.step {ι1 : Lk} {H1 : Hp} {r : R Fl} {E : Ends} (st : Step ι H ι1 H1) (h : PostS K ι H r E) : PostS K ι1 H1 r E := by
  obtain ⟨f, S', e, k⟩ := h
  refine ⟨f, S', e, ?_⟩
  cases f with
  | nx ρ' => exact fun σ' ι' H' st' cf => k σ' ι' H' (st.trans st') cf
  | rt d => exact fun v ι' H' st' wd r => k v ι' H' (st.trans st') wd r
  | bk ρ' => exact fun σ' ι' H' st' cf => k σ' ι' H' (st.trans st') cf
  | ct ρ' => exact fun σ' ι' H' st' cf => k σ' ι' H' (st.trans st') cf
theorem RdS.of {c : CS} {E : Ends} (cf : Cf K ι H σ ρ S) (h : PostS K ι H (c ρ S) E) : RdS K c E σ H := ⟨ι, ρ, S, cf, h⟩
/-- behind a body, its way out goes on -/
def goOn (k : Fl → Sto → R Fl) (r : R Fl) : R Fl := r.bind k
theorem RdS.then {c : CS} {k : Fl → Sto → R Fl} {E E' : Ends} (cf : Cf K ι H σ ρ S) (h : PostS K ι H ((c ρ S).bind k) E)
    (hn : ∀ ρ' S' σ' ι' H', Step ι H ι' H' → Cf K ι' H' σ' ρ' S' → PostS K ι' H' (k (.nx ρ') S') E → E'.nx σ' H')
    (hr : ∀ d S' v ι' H', Step ι H ι' H' → Wd K ι' H' S' → RD K ι' H' v d → PostS K ι' H' (k (.rt d) S') E → E'.rt v H')
    (hb : ∀ ρ' S' σ' ι' H', Step ι H ι' H' → Cf K ι' H' σ' ρ' S' → PostS K ι' H' (k (.bk ρ') S') E → E'.bk σ' H')
    (hc : ∀ ρ' S' σ' ι' H', Step ι H ι' H' → Cf K ι' H' σ' ρ' S' → PostS K ι' H' (k (.ct ρ') S') E → E'.ct σ' H') : RdS K c E' σ H := by
  obtain ⟨f, S', e, z⟩ := h
  obtain ⟨g, S1, e1, e2⟩ := bind_ok e
  refine ⟨ι, ρ, S, cf, g, S1, e1, ?_⟩
  have p : PostS K ι H (k g S1) E := ⟨f, S', e2, z⟩
  cases g with
  | nx ρ' => exact fun σ' ι' H' st cf' => hn ρ' S1 σ' ι' H' st cf' (p.step st)
  | rt d => exact fun v ι' H' st wd r => hr d S1 v ι' H' st wd r (p.step st)
  | bk ρ' => exact fun σ' ι' H' st cf' => hb ρ' S1 σ' ι' H' st cf' (p.step st)
  | ct ρ' => exact fun σ' ι' H' st cf' => hc ρ' S1 σ' ι' H' st cf' (p.step st)
theorem PostS.nx {ρ' : Ev} {S' : Sto} {E : Ends} {σ' : L2.St} (cf : Cf K ι H σ' ρ' S') (h : PostS K ι H (.ok (.nx ρ') S') E) : E.nx σ' H := by
  obtain ⟨f, S1, e, k⟩ := h
  cases e
  exact k σ' ι H (.refl _ _) cf
theorem PostS.bk {ρ' : Ev} {S' : Sto} {E : Ends} {σ' : L2.St} (cf : Cf K ι H σ' ρ' S') (h : PostS K ι H (.ok (.bk ρ') S') E) : E.bk σ' H := by
  obtain ⟨f, S1, e, k⟩ := h
  cases e
  exact k σ' ι H (.refl _ _) cf
theorem PostS.ct {ρ' : Ev} {S' : Sto} {E : Ends} {σ' : L2.St} (cf : Cf K ι H σ' ρ' S') (h : PostS K ι H (.ok (.ct ρ') S') E) : E.ct σ' H := by
  obtain ⟨f, S1, e, k⟩ := h
  cases e
  exact k σ' ι H (.refl _ _) cf
theorem PostS.rt {d : D} {S' : Sto} {E : Ends} {v : V} (wd : Wd K ι H S') (r : RD K ι H v d) (h : PostS K ι H (.ok (.rt d) S') E) : E.rt v H := by
  obtain ⟨f, S1, e, k⟩ := h
  cases e
  exact k v ι H (.refl _ _) wd r
end

/-! ### blocks -/
def sNil : CS := fun ρ S => .ok (.nx ρ) S
def sSeq (s t : CS) : CS := fun ρ S => (s ρ S).bind fun f S1 => match f with
  | .nx ρ1 => t ρ1 S1
  | f => .ok f S1
def sIf (c : CT) (s t : CS) : CS := fun ρ S => (c ρ S).bind fun b S1 => if b then s ρ S1 else t ρ S1
def sRet (c : CE) : CS := fun ρ S => (c ρ S).bind fun d S1 => .ok (.rt d) S1
def sRetN : CS := fun _ S => .ok (.rt (.p .non)) S
def sDrop (c : CE) : CS := fun ρ S => (c ρ S).bind fun _ S1 => .ok (.nx ρ) S1
def sBrk : CS := fun ρ S => .ok (.bk ρ) S
def sCnt : CS := fun ρ S => .ok (.ct ρ) S
def sNever : CS := fun _ _ => .no
section
variable {X : Cx} {st : Stmt} {rest sb : List Stmt} {s t : CS} {c : CT} {ce : CE} {e : Expr} {pos : Pos}
theorem rs_nil : PSs X [] (RdS X.K sNil) := pss_nil.weak fun E σ H ⟨ι, ρ, S, cf, h⟩ => h.nx cf
theorem rs_cons (h1 : PS X st (RdS X.K s)) (h2 : PSs X rest (RdS X.K t)) : PSs X (st :: rest) (RdS X.K (sSeq s t)) := (pss_cons h1 h2).weak fun E σ H ⟨ι, ρ, S, cf, h⟩ =>
  RdS.then cf h (fun ρ' S' σ' ι' H' st cf' p => .of cf' p) (fun d S' v ι' H' st wd r p => PostS.rt (E := E) wd r p) (fun ρ' S' σ' ι' H' st cf' p => PostS.bk (E := E) cf' p) fun ρ' S' σ' ι' H' st cf' p => PostS.ct (E := E) cf' p
theorem rs_one (h1 : PS X st (RdS X.K s)) : PSs X [st] (RdS X.K s) := pss_one h1
theorem rs_if {ex : Expr} (hc : PT X ex (RdT X.K c)) (h1 : PSs X rest (RdS X.K s)) (h2 : PSs X sb (RdS X.K t)) : PS X (.If ex rest sb pos) (RdS X.K (sIf c s t)) := (ps_if hc h1 h2).weak fun E σ H ⟨ι, ρ, S, cf, f, S', e, k⟩ => by
  obtain ⟨b, S1, e1, e2⟩ := bind_ok e
  refine RdT.run cf e1 fun ι1 H1 st1 cf1 => ?_
  have p : PostS X.K ι1 H1 (if b = true then s ρ S1 else t ρ S1) E := PostS.step st1 ⟨f, S', e2, k⟩
  cases b with
  | true =>
    rw [if_pos rfl] at p ⊢
    exact .of cf1 p
  | false =>
    rw [if_neg Bool.false_ne_true] at p ⊢
    exact .of cf1 p
theorem rs_ret (h : PE X e (RdE X.K ce)) : PS X (.Return (some e) pos) (RdS X.K (sRet ce)) := (ps_ret h).weak fun E σ H ⟨ι, ρ, S, cf, f, S', e, k⟩ => by
  obtain ⟨d, S1, e1, e2⟩ := bind_ok e
  refine RdE.run cf e1 fun v ι1 H1 st1 cf1 r1 => ?_
  exact PostS.rt cf1.wd r1 (PostS.step st1 ⟨f, S', e2, k⟩)
theorem rs_retN : PS X (.Return none pos) (RdS X.K sRetN) := ps_retN.weak fun E σ H ⟨ι, ρ, S, cf, h⟩ => h.rt cf.wd (.p .non)
theorem rs_expr (h : PE X e (RdE X.K ce)) (hs : swapsWith e none pos.line X.env = pure false := by rfl) : PS X (.Expr e pos) (RdS X.K (sDrop ce)) := (ps_expr h hs).weak fun E σ H ⟨ι, ρ, S, cf, f, S', e, k⟩ => by
  obtain ⟨d, S1, e1, e2⟩ := bind_ok e
  refine RdE.run cf e1 fun v ι1 H1 st1 cf1 r1 => ?_
  exact PostS.nx cf1 (PostS.step st1 ⟨f, S', e2, k⟩)
theorem rs_pass : PS X (.Pass pos) (RdS X.K sNil) := ps_pass.weak fun E σ H ⟨ι, ρ, S, cf, h⟩ => h.nx cf
theorem rs_break : PS X (.Break pos) (RdS X.K sBrk) := ps_break.weak fun E σ H ⟨ι, ρ, S, cf, h⟩ => h.bk cf
theorem rs_continue : PS X (.Continue pos) (RdS X.K sCnt) := ps_continue.weak fun E σ H ⟨ι, ρ, S, cf, h⟩ => h.ct cf
theorem rs_never : PS X st (RdS X.K sNever) := ps_never.weak fun E σ H ⟨ι, ρ, S, cf, f, S', e, k⟩ => by cases e
theorem rs_neverS : PSs X rest (RdS X.K sNever) := pss_never.weak fun E σ H ⟨ι, ρ, S, cf, f, S', e, k⟩ => by cases e
end

/-! ### targets -/
abbrev CG := D → Ev → Sto → R Ev
abbrev CGs := List P → Ev → Sto → R Ev
/-- a target stores at the slots of is alone -/
def RdG (K : PySem.W.Frag) (is : List Nat) (g : CG) : TG := fun v σ H Q => ∃ ι ρ S d, Cf K ι H σ ρ S ∧ RD K ι H v d ∧ ∃ ρ' S', g d ρ S = .ok ρ' S' ∧
  ∀ σ' ι' H', Step ι H ι' H' → Cf K ι' H' σ' ρ' S' → σ'.length = σ.length → (∀ j, j ∉ is → σ'[j]? = σ[j]?) → Q σ' H'
def RdGs (K : PySem.W.Frag) (is : List Nat) (g : CGs) : TGs := fun vs σ H Q => ∃ ι ρ S xs, Cf K ι H σ ρ S ∧ RPs K ι H vs xs ∧ ∃ ρ' S', g xs ρ S = .ok ρ' S' ∧
  ∀ σ' ι' H', Step ι H ι' H' → Cf K ι' H' σ' ρ' S' → σ'.length = σ.length → (∀ j, j ∉ is → σ'[j]? = σ[j]?) → Q σ' H'
theorem _root_.L2.PG.weak {X : Cx} {e : Expr} {t t' : TG} (h : PG X e t) (k : ∀ v σ H Q, t' v σ H Q → t v σ H Q) : PG X e t' := ⟨fun pins s σ H v u Q I r q => h.run pins s σ H v u Q I r (k v σ H Q q)⟩
theorem _root_.L2.PGs.weak {X : Cx} {e : List Expr} {t t' : TGs} (h : PGs X e t) (k : ∀ v σ H Q, t' v σ H Q → t v σ H Q) : PGs X e t' := ⟨fun pins s σ H v u Q I r q => h.run pins s σ H v u Q I r (k v σ H Q q)⟩
theorem Cf.set {K : PySem.W.Frag} {ι : Lk} {H : Hp} {σ : L2.St} {ρ : Ev} {S : Sto} {v : V} {d : D} (cf : Cf K ι H σ ρ S) (r : RD K ι H v d) (i : Nat) : Cf K ι H (σ.set i (some v)) (ρ.set i (some d)) S := by
  refine ⟨cf.wd, by rw [List.length_set, List.length_set]; exact cf.len, fun j e h => ?_⟩
  by_cases hj : i = j
  · subst hj
    by_cases hi : i < ρ.length
    · rw [List.getElem?_set_self hi] at h
      cases h
      exact ⟨v, List.getElem?_set_self (by rw [cf.len]; exact hi), r⟩
    · rw [List.getElem?_eq_none (by rw [List.length_set]; omega)] at h; cases h
  · rw [List.getElem?_set_ne hj] at h ⊢
    exact cf.sv j e h
def gN (i : Nat) : CG := fun d ρ S => .ok (ρ.set i (some d)) S
def gsNil : CGs := fun xs ρ S => match xs with
  | [] => .ok ρ S
  | _ => .no
def gsCons (g : CG) (r : CGs) : CGs := fun xs ρ S => match xs with
  | x :: xs => (g (.p x) ρ S).bind fun ρ1 S1 => r xs ρ1 S1
  | [] => .no
def gTp (n : Nat) (g : CGs) : CG := fun d ρ S => match d with
  | .p (.tup xs) => if xs.length = n then g xs ρ S else .no
  | _ => .no
section
variable {X : Cx} {pos : Pos} {x : Str}
theorem rg_name {i : Nat} (hN : X.N.Nodup) (hi : X.N[i]? = some x) (hx : Loc X.env.scope x) (hf : X.fn x = true ∨ X.env.scope.names.lookup x = some .local := by first | exact .inl rfl | exact .inr rfl | assumption) : PG X (.Name x pos) (RdG X.K [i] (gN i)) :=
  (pg_name hN hi hx hf).weak fun v σ H Q ⟨ι, ρ, S, d, cf, r, ρ', S', e, k⟩ => by
    cases e
    exact k _ ι H (.refl _ _) (cf.set r i) (List.length_set ..) fun j hj => List.getElem?_set_ne fun e => hj (by rw [e]; exact List.mem_singleton.mpr rfl)
theorem rgs_nil : PGs X [] (RdGs X.K [] gsNil) := pgs_nil.weak fun v σ H Q ⟨ι, ρ, S, d, cf, r, ρ', S', e, k⟩ => by
  unfold gsNil at e
  split at e
  · cases e
    cases r
    exact ⟨rfl, k σ ι H (.refl _ _) cf rfl fun _ _ => rfl⟩
  · cases e
theorem rgs_cons {a : Expr} {es : List Expr} {is js : List Nat} {g : CG} {r : CGs} (h1 : PG X a (RdG X.K is g)) (h2 : PGs X es (RdGs X.K js r)) (hs : (assignEach (a :: es) X.env).map (·.2) = assign a X.env :: (assignEach es X.env).map (·.2) := by rfl) : PGs X (a :: es) (RdGs X.K (is ++ js) (gsCons g r)) :=
  (pgs_cons h1 h2 hs).weak fun v σ H Q ⟨ι, ρ, S, d, cf, q, ρ', S', e, k⟩ => by
    unfold gsCons at e
    split at e
    · rename_i y ys
      obtain ⟨ρ1, S1, e1, e2⟩ := bind_ok e
      cases q with
      | cons q qs =>
        refine ⟨_, _, rfl, ι, ρ, S, _, cf, .p q, ρ1, S1, e1, fun σ1 ι1 H1 st1 cf1 l1 h1 => ?_⟩
        refine ⟨ι1, ρ1, S1, _, cf1, qs.mono st1, ρ', S', e2, fun σ2 ι2 H2 st2 cf2 l2 h2 => k σ2 ι2 H2 (st1.trans st2) cf2 (l2.trans l1) fun j hj => ?_⟩
        rw [h2 j fun z => hj (List.mem_append_right _ z), h1 j fun z => hj (List.mem_append_left _ z)]
    · cases e
theorem rg_tup {es : List Expr} {k : Nat} {is : List Nat} {g : CGs} {n : Nat} (hc : X.calm = true) (h : PGs X es (RdGs X.K is g)) (hn : (assignEach es X.env).length = n := by rfl) (hst : (assignEach es X.env).findIdx? (·.1) = none := by rfl) : PG X (.Tuple es k pos) (RdG X.K is (gTp n g)) :=
  (pg_tup hc h hn hst).weak fun v σ H Q ⟨ι, ρ, S, d, cf, q, ρ', S', e, k⟩ => by
    unfold gTp at e
    split at e
    · split at e
      · rename_i xs hl
        obtain ⟨a, vs, rfl, h1, q1⟩ := q.tupD
        exact ⟨a, vs, rfl, h1.sq, by rw [q1.length]; exact hl, ι, ρ, S, xs, cf, q1, ρ', S', e, k⟩
      · cases e
    · cases e
end
/-! ### assignments -/
def sAsg (c : CE) (g : CG) : CS := fun ρ S => (c ρ S).bind fun d S1 => (g d ρ S1).bind fun ρ2 S2 => .ok (.nx ρ2) S2
theorem asg_rd {K : PySem.W.Frag} {c : CE} {is : List Nat} {g : CG} {E : Ends} {σ : L2.St} {H : Hp} (h : RdS K (sAsg c g) E σ H) : RdE K c σ H fun x H1 => RdG K is g x σ H1 E.nx := by
  obtain ⟨ι, ρ, S, cf, f, S', e, k⟩ := h
  obtain ⟨d, S1, e1, e2⟩ := bind_ok e
  obtain ⟨ρ2, S2, e3, e4⟩ := bind_ok e2
  cases e4
  exact RdE.run cf e1 fun v ι1 H1 st1 cf1 r1 => ⟨ι1, ρ, S1, d, cf1, r1, ρ2, S', e3, fun σ' ι' H' st cf' _ _ => k σ' ι' H' (st1.trans st) cf'⟩
section
variable {X : Cx} {e tg : Expr} {ce : CE} {is : List Nat} {g : CG} {pos pos' : Pos} {x : Str}
theorem rs_asg (he : PE X e (RdE X.K ce)) (hg : PG X tg (RdG X.K is g)) (hs : swapsWithSole [tg] e pos.line X.env = pure false := by rfl) (hw : swappedStores [tg] e X.env = pure none := by rfl)
    (h1 : (assignEach [tg] X.env).map (·.2) = [assign tg X.env] := by rfl) : PS X (.Assign [tg] e pos) (RdS X.K (sAsg ce g)) := (ps_asg he hg hs hw h1).weak fun E σ H h => asg_rd h
theorem rs_set {i : Nat} (hN : X.N.Nodup) (hi : X.N[i]? = some x) (hx : Loc X.env.scope x) (he : PE X e (RdE X.K ce)) (hs : swapsWith e (some (.Name x pos')) pos.line X.env = pure false := by rfl) (hf : X.fn x = true ∨ X.env.scope.names.lookup x = some .local := by first | exact .inl rfl | exact .inr rfl | assumption) :
    PS X (.Assign [.Name x pos'] e pos) (RdS X.K (sAsg ce (gN i))) := (ps_set hN hi hx he hs hf).weak fun E σ H h => by
  obtain ⟨ι, ρ, S, cf, f, S', e, k⟩ := h
  obtain ⟨d, S1, e1, e2⟩ := bind_ok e
  obtain ⟨ρ2, S2, e3, e4⟩ := bind_ok e2
  cases e4
  cases e3
  exact RdE.run cf e1 fun v ι1 H1 st1 cf1 r1 => k _ ι1 H1 st1 (cf1.set r1 i)
end

/-! ### the same things -/
mutual
def P.beq : P → P → Bool
  | .non, .non => true
  | .bl a, .bl b => a == b
  | .int a, .int b => a == b
  | .str a, .str b => decide (a = b)
  | .tup a, .tup b => P.beqs a b
  | .ro a, .ro b => P.beqs a b
  | .scr a, .scr b => P.beqs a b
  | .dic a, .dic b => P.beqk a b
  | _, _ => false
def P.beqs : List P → List P → Bool
  | [], [] => true
  | x :: xs, y :: ys => x.beq y && P.beqs xs ys
  | _, _ => false
def P.beqk : List (Key × P) → List (Key × P) → Bool
  | [], [] => true
  | (j, x) :: xs, (k, y) :: ys => decide (j = k) && x.beq y && P.beqk xs ys
  | _, _ => false
end
mutual
theorem beq_eq : ∀ x y : P, x.beq y = true → x = y
  | .non, .non, _ => rfl
  | .bl a, .bl b, h => by simp only [P.beq, beq_iff_eq] at h; rw [h]
  | .int a, .int b, h => by simp only [P.beq, beq_iff_eq] at h; rw [h]
  | .str a, .str b, h => by simp only [P.beq, decide_eq_true_eq] at h; rw [h]
  | .tup a, .tup b, h => by simp only [P.beq] at h; rw [beqs_eq a b h]
  | .ro a, .ro b, h => by simp only [P.beq] at h; rw [beqs_eq a b h]
  | .scr a, .scr b, h => by simp only [P.beq] at h; rw [beqs_eq a b h]
  | .dic a, .dic b, h => by simp only [P.beq] at h; rw [beqk_eq a b h]
theorem beqs_eq : ∀ x y : List P, P.beqs x y = true → x = y
  | [], [], _ => rfl
  | x :: xs, y :: ys, h => by
    simp only [P.beqs, Bool.and_eq_true] at h
    rw [beq_eq x y h.1, beqs_eq xs ys h.2]
theorem beqk_eq : ∀ x y : List (Key × P), P.beqk x y = true → x = y
  | [], [], _ => rfl
  | (j, x) :: xs, (k, y) :: ys, h => by
    simp only [P.beqk, Bool.and_eq_true, decide_eq_true_eq] at h
    rw [h.1.1, beq_eq x y h.1.2, beqk_eq xs ys h.2]
end
mutual
theorem beq_rfl : ∀ x : P, x.beq x = true
  | .non => rfl
  | .bl a => by simp [P.beq]
  | .int a => by simp [P.beq]
  | .str a => by simp [P.beq]
  | .tup a => by simp only [P.beq]; exact beqs_rfl a
  | .ro a => by simp only [P.beq]; exact beqs_rfl a
  | .scr a => by simp only [P.beq]; exact beqs_rfl a
  | .dic a => by simp only [P.beq]; exact beqk_rfl a
theorem beqs_rfl : ∀ x : List P, P.beqs x x = true
  | [] => rfl
  | x :: xs => by simp only [P.beqs, beq_rfl x, beqs_rfl xs]; rfl
theorem beqk_rfl : ∀ x : List (Key × P), P.beqk x x = true
  | [] => rfl
  | (j, x) :: xs => by simp only [P.beqk, beq_rfl x, beqk_rfl xs, decide_true]; rfl
end

/-! ### what is walked -/
/-- the things walked; the store's list whose they are -/
abbrev CI := Ev → Sto → R (List P × Option (Nat × List P))
def okT (tr : Option (Nat × List P)) (_ : List P) (S : Sto) : Bool := match tr with
  | none => true
  | some (m, zs) => match S[m]? with
    | some (.lst ys) => P.beqs ys zs
    | _ => false
theorem okT_at {m : Nat} {xs zs : List P} {S : Sto} (h : okT (some (m, zs)) xs S = true) : S[m]? = some (.lst zs) := by
  unfold okT at h
  simp only at h
  split at h
  · rename_i ys hy
    rw [hy, beqs_eq ys zs h]
  · cases h
/-- J walks them -/
def Go (K : PySem.W.Frag) (J : It) (ι0 : Lk) (H0 : Hp) (xs : List P) (tr : Option (Nat × List P)) : Prop :=
  ∀ (ι : Lk) (H : Hp) (S : Sto), StepH ι0 H0 ι H → Wd K ι H S → okT tr xs S = true →
    (∀ i x, xs[i]? = some x → J.go i H ∧ ∀ v H', J.yld i H v H' → Step ι H ι H' ∧ Wd K ι H' S ∧ RP K ι H' v x) ∧ J.stop xs.length H
def RdI (K : PySem.W.Frag) (c : CI) : TI := fun σ H Q => ∃ ι ρ S, Cf K ι H σ ρ S ∧ ∃ xs tr S', c ρ S = .ok (xs, tr) S' ∧ ∀ J ι' H', Step ι H ι' H' → Wd K ι' H' S' → Go K J ι' H' xs tr → Q J H'
theorem _root_.L2.PI.weak {X : Cx} {tg e : Expr} {t t' : TI} (h : PI X tg e t) (k : ∀ σ H Q, t' σ H Q → t σ H Q) : PI X tg e t' := ⟨fun pins s σ H Q I q => h.run pins s σ H Q I (k σ H Q q)⟩
theorem _root_.L2.PI.orr {X : Cx} {tg e : Expr} {t t' : TI} (h : PI X tg e t) (h' : PI X tg e t') : PI X tg e (fun σ H Q => t σ H Q ∨ t' σ H Q) := ⟨fun pins s σ H Q I q => q.elim (h.run pins s σ H Q I) (h'.run pins s σ H Q I)⟩
theorem Step.lk {ι ι' : Lk} {H H' : Hp} (st : Step ι H ι' H') {m : Nat} {a : Addr} (h : ι.ix[m]? = some (some a)) : ι'.ix[m]? = some (some a) ∨ ι'.ix[m]? = some none := st.old m _ h
/-- a sequence at a: what is read there is one -/
theorem rd_one {H : Hp} {a : Addr} {u u' : HO} (h : Rd H a u) (h' : Rd H a u') (n : ∀ o w, u ≠ .frz o w) (n' : ∀ o w, u' ≠ .frz o w) : u = u' := by
  rcases h with h | ⟨o, h⟩ <;> rcases h' with h' | ⟨o', h'⟩
  · rw [h] at h'; exact Option.some.inj h'
  · rw [h] at h'; exact absurd (Option.some.inj h') (n _ _)
  · rw [h'] at h; exact absurd (Option.some.inj h) (n' _ _)
  · rw [h] at h'; cases h'; rfl
end Cw
set_option Elab.async false
set_option linter.all false
set_option maxRecDepth 100000
set_option maxHeartbeats 4000000
/-! Cw9: loops, comprehensions. -/
namespace Cw
open PySem PySem.Spec PyProof.Rows L2

section
variable {K : PySem.W.Frag} {ι : Lk} {H : Hp} {S : Sto}
theorem go_seq {a : Addr} {vs : List V} {xs : List P} (h : LstAt K ι H a vs) (r : RPs K ι H vs xs) : Go K (Itl K a) ι H xs none := fun ι1 H1 S1 st wd _ => by
  have h1 := (h.monoH st).sq
  have r1 := r.monoH st
  refine ⟨fun i x e => ?_, ⟨vs, h1, Nat.le_of_eq r1.length⟩⟩
  obtain ⟨v, hv, rv⟩ := r1.get e
  refine ⟨⟨vs, v, h1, hv⟩, fun w H' y => ?_⟩
  obtain ⟨e1, y⟩ := y
  subst e1
  have := y vs h1
  rw [hv] at this
  cases this
  exact ⟨.refl _ _, wd, rv⟩
theorem go_tup {a : Addr} {vs : List V} {xs : List P} (h : TupAt K ι H a vs) (r : RPs K ι H vs xs) : Go K (Itt K a) ι H xs none := fun ι1 H1 S1 st wd _ => by
  have h1 := (h.monoH st).sq
  have r1 := r.monoH st
  refine ⟨fun i x e => ?_, ⟨vs, h1, Nat.le_of_eq r1.length⟩⟩
  obtain ⟨v, hv, rv⟩ := r1.get e
  refine ⟨⟨vs, v, h1, hv⟩, fun w H' y => ?_⟩
  obtain ⟨e1, y⟩ := y
  subst e1
  have := y vs h1
  rw [hv] at this
  cases this
  exact ⟨.refl _ _, wd, rv⟩
theorem go_ref {m : Nat} {a : Addr} {xs : List P} (h : ι.ix[m]? = some (some a)) : Go K (Itl K a) ι H xs (some (m, xs)) := fun ι1 H1 S1 st wd ok => by
  have hS := okT_at ok
  have q := wd.ob m _ hS
  obtain ⟨vs, h1, r1⟩ : ∃ vs, H1 a = some (.lst vs) ∧ RPs K ι1 H1 vs xs := by
    rcases st.old m _ h with e | e
    · rw [e] at q
      cases q with
      | lst e1 r => exact ⟨_, e1, r⟩
    · rw [e] at q
      cases q
  refine ⟨fun i x e => ?_, ⟨vs, .of h1, Nat.le_of_eq r1.length⟩⟩
  obtain ⟨v, hv, rv⟩ := r1.get e
  refine ⟨⟨vs, v, .of h1, hv⟩, fun w H' y => ?_⟩
  obtain ⟨e1, y⟩ := y
  subst e1
  have := y vs (.of h1)
  rw [hv] at this
  cases this
  exact ⟨.refl _ _, wd, rv⟩
def rangeP (lo : Int) (n : Nat) : List P := (List.range n).map fun i => .int (lo + (i : Nat))
theorem go_range (lo : Int) (n : Nat) : Go K (Itr lo n) ι H (rangeP lo n) none := fun ι1 H1 S1 st wd _ => by
  have hl : (rangeP lo n).length = n := by unfold rangeP; rw [List.length_map, List.length_range]
  refine ⟨fun i x e => ?_, by rw [hl]; exact Nat.le_refl n⟩
  have hi : i < n := by
    rcases Nat.lt_or_ge i n with q | q
    · exact q
    · rw [List.getElem?_eq_none (by omega)] at e; cases e
  refine ⟨hi, fun w H' y => ?_⟩
  obtain ⟨e1, e2⟩ := y
  subst e1 e2
  have : (rangeP lo n)[i]? = some (.int (lo + (i : Nat))) := by
    unfold rangeP
    rw [List.getElem?_map, List.getElem?_range hi]; rfl
  rw [this] at e
  cases e
  exact ⟨.refl _ _, wd, .int _⟩
end
/-! ### what a for walks -/
/-- a value: a tuple, a list -/
def iterD (d : D) (S : Sto) : R (List P × Option (Nat × List P)) := match d with
  | .p (.tup xs) => .ok (xs, none) S
  | .p (.ro xs) => .ok (xs, none) S
  | .p (.scr xs) => .ok (xs, none) S
  | .ref m => match S[m]? with
    | some (.lst xs) => .ok (xs, some (m, xs)) S
    | _ => .no
  | _ => .no
def cIt (c : CE) : CI := fun ρ S => (c ρ S).bind iterD
def rngOk (i j : Int) : Bool := Nat.ble i.natAbs 4611686018427387903 && Nat.ble j.natAbs 4611686018427387903
def cRng1 (c : CE) : CI := fun ρ S => (c ρ S).bind fun d S1 => match d with
  | .p (.int j) => if rngOk 0 j then .ok (rangeP 0 j.toNat, none) S1 else .no
  | _ => .no
def cRng2 (a b : CE) : CI := fun ρ S => (a ρ S).bind fun x S1 => (b ρ S1).bind fun y S2 => match x, y with
  | .p (.int i), .p (.int j) => if rngOk i j then .ok (rangeP i (j - i).toNat, none) S2 else .no
  | _, _ => .no
section
variable {X : Cx} {e a b tg : Expr} {ce ca cb : CE} {p pos : Pos}
theorem ri_seq (h : PE X e (RdE X.K ce)) : PI X tg e (RdI X.K (cIt ce)) := (PI.orr (pi_list h) (pi_tup h)).weak fun σ H Q ⟨ι, ρ, S, cf, xs, tr, S', e, k⟩ => by
  obtain ⟨d, S1, e1, e2⟩ := bind_ok e
  cases d with
  | p x =>
    cases x with
    | tup ys =>
      cases e2
      refine .inr (RdE.run cf e1 fun v ι1 H1 st1 cf1 r1 => ?_)
      obtain ⟨a, vs, rfl, h1, q1⟩ := r1.tupD
      exact ⟨a, rfl, ⟨vs, h1.sq⟩, k _ ι1 H1 st1 cf1.wd (go_tup h1 q1)⟩
    | ro ys =>
      cases e2
      refine .inl (RdE.run cf e1 fun v ι1 H1 st1 cf1 r1 => ?_)
      cases r1 with
      | p r1 =>
        cases r1 with
        | ro h hn q1 => exact ⟨_, rfl, ⟨_, .inl h⟩, k _ ι1 H1 st1 cf1.wd (go_seq (.inl ⟨h, hn⟩) q1)⟩
    | scr ys =>
      cases e2
      refine .inl (RdE.run cf e1 fun v ι1 H1 st1 cf1 r1 => ?_)
      cases r1 with
      | p r1 =>
        cases r1 with
        | scr h q1 => exact ⟨_, rfl, ⟨_, h.sq⟩, k _ ι1 H1 st1 cf1.wd (go_seq h q1)⟩
    | _ => cases e2
  | ref m =>
    unfold iterD at e2
    simp only at e2
    split at e2
    · rename_i ys hy
      cases e2
      refine .inl (RdE.run cf e1 fun v ι1 H1 st1 cf1 r1 => ?_)
      obtain ⟨a, vs, rfl, hix, h1, q1⟩ := cf1.wd.lst r1 hy
      exact ⟨a, rfl, ⟨vs, .of h1⟩, k _ ι1 H1 st1 cf1.wd (go_ref hix)⟩
    · cases e2
theorem rngOk_of {i j : Int} (h : rngOk i j = true) : -(2 ^ 62) ≤ i ∧ i < 2 ^ 62 ∧ -(2 ^ 62) ≤ j ∧ j < 2 ^ 62 := by
  unfold rngOk at h
  rw [Bool.and_eq_true, Nat.ble_eq, Nat.ble_eq] at h
  omega
theorem ri_range1 (hg : Gl X "range") (hm : X.mg "range" = none) (ha : PE X a (RdE X.K ca)) (hs : starEach [a] X.env = [(false, eval a X.env)] := by rfl) (hs0 : starEach (a :: []) X.env = (false, eval a X.env) :: starEach [] X.env := by rfl) : PI X tg (.Call (.Name "range" p) [a] [] pos) (RdI X.K (cRng1 ca)) :=
  (pi_range1 hg hm (pa_cons ha pa_nil hs0) hs).weak fun σ H Q ⟨ι, ρ, S, cf, xs, tr, S', e, k⟩ => by
    obtain ⟨d, S1, e1, e2⟩ := bind_ok e
    refine RdE.run cf e1 fun v ι1 H1 st1 cf1 r1 => ?_
    split at e2
    · split at e2
      · rename_i j hj
        cases e2
        have hj := rngOk_of hj
        exact ⟨j, by rw [r1.intD], hj.2.2.1, hj.2.2.2, k _ ι1 H1 st1 cf1.wd (go_range 0 _)⟩
      · cases e2
    · cases e2
theorem ri_range2 (hg : Gl X "range") (hm : X.mg "range" = none) (ha : PE X a (RdE X.K ca)) (hb : PE X b (RdE X.K cb)) (hs : starEach [a, b] X.env = [(false, eval a X.env), (false, eval b X.env)] := by rfl) (hs2 : starEach [b] X.env = [(false, eval b X.env)] := by rfl)
    (hs0 : starEach (a :: [b]) X.env = (false, eval a X.env) :: starEach [b] X.env := by rfl) (hs1 : starEach (b :: []) X.env = (false, eval b X.env) :: starEach [] X.env := by rfl) : PI X tg (.Call (.Name "range" p) [a, b] [] pos) (RdI X.K (cRng2 ca cb)) :=
  (pi_range2 hg hm (pa_cons ha (pa_cons hb pa_nil hs1) hs0) hs hs2).weak fun σ H Q ⟨ι, ρ, S, cf, xs, tr, S', e, k⟩ => by
    obtain ⟨x, S1, e1, e2⟩ := bind_ok e
    obtain ⟨y, S2, e3, e4⟩ := bind_ok e2
    refine RdE.run cf e1 fun v ι1 H1 st1 cf1 r1 => RdE.run cf1 e3 fun w ι2 H2 st2 cf2 r2 => ?_
    split at e4
    · split at e4
      · rename_i i j hj
        cases e4
        have hj := rngOk_of hj
        exact ⟨i, j, by rw [r1.intD, r2.intD], hj, k _ ι2 H2 (st1.trans st2) cf2.wd (go_range i _)⟩
      · cases e4
    · cases e4
end

/-! ### for -/
def forL (g : CG) (body : CS) (tr : Option (Nat × List P)) (xs0 : List P) : List P → CS
  | [] => fun ρ S => if okT tr xs0 S then .ok (.nx ρ) S else .no
  | x :: r => fun ρ S => if okT tr xs0 S then (g (.p x) ρ S).bind fun ρ1 S1 => (body ρ1 S1).bind fun f S2 => match f with
      | .nx ρ2 => forL g body tr xs0 r ρ2 S2
      | .ct ρ2 => forL g body tr xs0 r ρ2 S2
      | .bk ρ2 => .ok (.nx ρ2) S2
      | .rt d => .ok (.rt d) S2
    else .no
def sFor (it : CI) (g : CG) (body : CS) : CS := fun ρ S => (it ρ S).bind fun z S1 => forL g body z.2 z.1 z.1 ρ S1
theorem drop_at {α : Type} {xs : List α} {i : Nat} {x : α} {r : List α} (h : xs.drop i = x :: r) : xs[i]? = some x ∧ xs.drop (i + 1) = r := by
  have hi : i < xs.length := by
    rcases Nat.lt_or_ge i xs.length with q | q
    · exact q
    · rw [List.drop_eq_nil_of_le q] at h; cases h
  rw [List.drop_eq_getElem_cons hi] at h
  cases h
  exact ⟨List.getElem?_eq_getElem hi, rfl⟩
section
variable {X : Cx} {tg iter : Expr} {body : List Stmt} {it : CI} {is : List Nat} {g : CG} {cb : CS} {pos : Pos}
theorem for_go {K : PySem.W.Frag} {E : Ends} {σ : L2.St} {H1 : Hp} {J : It} {ι1 : Lk} {ρ : Ev} {S1 : Sto} {xs : List P} {tr : Option (Nat × List P)} (cf1 : Cf K ι1 H1 σ ρ S1) (go : Go K J ι1 H1 xs tr) (p0 : PostS K ι1 H1 (forL g cb tr xs xs ρ S1) E) :
    ∃ W : Nat → Nat → L2.St → Hp → Prop, (∃ m, W 0 m σ H1) ∧ ∀ i m σ H, W i m σ H →
      (J.stop i H ∧ E.nx σ H) ∨ (J.go i H ∧ ∃ N : L2.St → Hp → Prop, (∀ σ' H', N σ' H' → ∃ m', m' < m ∧ W (i + 1) m' σ' H') ∧ ∀ x H', J.yld i H x H' → RdG K is g x σ H' fun σ2 H2 => RdS K cb { E with nx := N, ct := N, bk := E.nx } σ2 H2) := by
  refine ⟨fun i m σ H => m + i = xs.length ∧ ∃ ι ρ S, Cf K ι H σ ρ S ∧ Step ι1 H1 ι H ∧ PostS K ι H (forL g cb tr xs (xs.drop i) ρ S) E, ⟨xs.length, by omega, ι1, ρ, S1, cf1, .refl _ _, p0⟩, ?_⟩
  rintro i m σ2 H2 ⟨hm, ι2, ρ2, S2, cf2, st2, p2⟩
  cases hx : xs.drop i with
  | nil =>
    rw [hx] at p2
    unfold forL at p2
    have hi : xs.length ≤ i := List.drop_eq_nil_iff.mp hx
    have hi2 : i = xs.length := by omega
    by_cases ok : okT tr xs S2 = true
    · simp only [ok, if_true] at p2
      exact .inl ⟨by rw [hi2]; exact (go ι2 H2 S2 st2.h cf2.wd ok).2, p2.nx cf2⟩
    · simp only [ok] at p2
      obtain ⟨_, _, z, _⟩ := p2
      cases z
  | cons x r =>
    obtain ⟨hxi, hr⟩ := drop_at hx
    rw [hx] at p2
    unfold forL at p2
    by_cases ok : okT tr xs S2 = true
    · simp only [ok, if_true] at p2
      obtain ⟨gg, gy⟩ := (go ι2 H2 S2 st2.h cf2.wd ok).1 i x hxi
      refine .inr ⟨gg, fun σ H => ∃ ι ρ S, Cf K ι H σ ρ S ∧ Step ι1 H1 ι H ∧ PostS K ι H (forL g cb tr xs (xs.drop (i + 1)) ρ S) E, fun σ' H' ⟨ι', ρ', S', c', s', p'⟩ => ⟨m - 1, ?_, ?_, ι', ρ', S', c', s', p'⟩, fun v H' y => ?_⟩
      · have : i < xs.length := by
          rcases Nat.lt_or_ge i xs.length with q | q
          · exact q
          · rw [List.getElem?_eq_none q] at hxi; cases hxi
        omega
      · have : i < xs.length := by
          rcases Nat.lt_or_ge i xs.length with q | q
          · exact q
          · rw [List.getElem?_eq_none q] at hxi; cases hxi
        omega
      obtain ⟨st3, wd3, rv⟩ := gy v H' y
      obtain ⟨f', Sf, e3, k3⟩ := p2
      obtain ⟨ρ4, S4, e4, e5⟩ := bind_ok e3
      refine ⟨ι2, ρ2, S2, .p x, cf2.step st3 wd3, .p rv, ρ4, S4, e4, fun σ4 ι4 H4 st4 cf4 _ _ => ?_⟩
      have st34 := st3.trans st4
      refine RdS.then (E := E) cf4 (PostS.step st34 ⟨f', Sf, e5, k3⟩) (fun ρ' S' σ' ι' H' st cf' p => ?_) (fun d S' v ι' H' st wd r p => PostS.rt (E := E) wd r p) (fun ρ' S' σ' ι' H' st cf' p => PostS.nx (E := E) cf' p) fun ρ' S' σ' ι' H' st cf' p => ?_
      · rw [hr]
        exact ⟨ι', ρ', S', cf', (st2.trans st34).trans st, p⟩
      · rw [hr]
        exact ⟨ι', ρ', S', cf', (st2.trans st34).trans st, p⟩
    · simp only [ok] at p2
      obtain ⟨_, _, z, _⟩ := p2
      cases z
theorem for_rd {K : PySem.W.Frag} {E : Ends} {σ : L2.St} {H : Hp} (h : RdS K (sFor it g cb) E σ H) : tFor (RdI K it) (RdG K is g) (RdS K cb) E σ H := by
  obtain ⟨ι, ρ, S, cf, f, S', e, k⟩ := h
  obtain ⟨⟨xs, tr⟩, S1, e1, e2⟩ := bind_ok e
  exact ⟨ι, ρ, S, cf, xs, tr, S1, e1, fun J ι1 H1 st1 wd1 go => for_go (cf.step st1 wd1) go (PostS.step st1 ⟨f, S', e2, k⟩)⟩
theorem rs_for (hp : PassesOwn (model X.prog X.w) X.A X.env X.xe) (hc : X.calm = true) (hi : PI X tg iter (RdI X.K it)) (hg : PG X tg (RdG X.K is g)) (hb : PSs X body (RdS X.K cb))
    (hs : ∀ x, foldedSetIterable iter X.env x = pure x := by intro _; rfl) : PS X (.For tg iter body [] pos) (RdS X.K (sFor it g cb)) := (ps_for hp hc hi hg hb hs).weak fun E σ H h => for_rd h
end

/-! ### while -/
def whileN (t : CT) (b : CS) : Nat → CS
  | 0 => fun _ _ => .no
  | n + 1 => fun ρ S => (t ρ S).bind fun k S1 => if k then (b ρ S1).bind fun f S2 => match f with
      | .nx ρ2 => whileN t b n ρ2 S2
      | .ct ρ2 => whileN t b n ρ2 S2
      | .bk ρ2 => .ok (.nx ρ2) S2
      | .rt d => .ok (.rt d) S2
    else .ok (.nx ρ) S1
/-- more turns than any loop here takes -/
def bigW : Nat := 1099511627776
def sWhile (t : CT) (b : CS) : CS := whileN t b bigW
section
variable {X : Cx} {c : Expr} {body : List Stmt} {t : CT} {cb : CS} {pos : Pos}
theorem while_rd {K : PySem.W.Frag} {E : Ends} {σ : L2.St} {H : Hp} {n : Nat} (h : RdS K (whileN t cb n) E σ H) : tWhile (RdT K t) (RdS K cb) E σ H := by
  refine ⟨fun m σ H => RdS K (whileN t cb m) E σ H, ⟨n, h⟩, ?_⟩
  rintro m σ2 H2 ⟨ι, ρ, S, cf, f, S', e, k⟩
  cases m with
  | zero => cases e
  | succ m =>
    obtain ⟨b, S1, e1, e2⟩ := bind_ok e
    refine RdT.run cf e1 fun ι1 H1 st1 cf1 => ?_
    cases b with
    | false =>
      rw [if_neg Bool.false_ne_true] at e2 ⊢
      exact PostS.nx cf1 (PostS.step st1 ⟨f, S', e2, k⟩)
    | true =>
      rw [if_pos rfl] at e2 ⊢
      refine ⟨fun σ H => RdS K (whileN t cb m) E σ H, fun σ' H' q => ⟨m, Nat.lt_succ_self m, q⟩, ?_⟩
      exact RdS.then (E := E) cf1 (PostS.step st1 ⟨f, S', e2, k⟩) (fun ρ' S' σ' ι' H' st cf' p => .of cf' p) (fun d S' v ι' H' st wd r p => PostS.rt (E := E) wd r p) (fun ρ' S' σ' ι' H' st cf' p => PostS.nx (E := E) cf' p) fun ρ' S' σ' ι' H' st cf' p => .of cf' p
theorem rs_while (hp : PassesOwn (model X.prog X.w) X.A X.env X.xe) (hc : PT X c (RdT X.K t)) (hb : PSs X body (RdS X.K cb)) : PS X (.While c body [] pos) (RdS X.K (sWhile t cb)) := (ps_while hp hc hb).weak fun E σ H h => while_rd h
end
end Cw
set_option Elab.async false
set_option linter.all false
set_option maxRecDepth 100000
set_option maxHeartbeats 4000000
/-! Cw10: comprehensions. -/
namespace Cw
open PySem PySem.Spec PyProof.Rows L2

/-- the slots of the block's own names forgotten -/
def wipeE (ρ : Ev) : List Nat → Ev
  | [] => ρ
  | v :: vs => (wipeE ρ vs).set v none
theorem wipe_get {α : Type} (σ : List (Option α)) (w : List (Option α) → List Nat → List (Option α)) (h0 : ∀ σ, w σ [] = σ) (h1 : ∀ σ v vs, w σ (v :: vs) = (w σ vs).set v none) : ∀ (vs : List Nat),
    (w σ vs).length = σ.length ∧ (∀ j, j ∉ vs → (w σ vs)[j]? = σ[j]?) ∧ ∀ j, j ∈ vs → j < σ.length → (w σ vs)[j]? = some none
  | [] => by rw [h0]; exact ⟨rfl, fun _ _ => rfl, fun j hj => by simp at hj⟩
  | v :: vs => by
    obtain ⟨a, b, c⟩ := wipe_get σ w h0 h1 vs
    rw [h1]
    refine ⟨by rw [List.length_set, a], fun j hj => ?_, fun j hj hl => ?_⟩
    · have h2 : v ≠ j := fun e => hj (by rw [e]; exact List.mem_cons_self)
      rw [List.getElem?_set_ne h2]
      exact b j fun z => hj (List.mem_cons_of_mem _ z)
    · by_cases e : v = j
      · subst e
        exact List.getElem?_set_self (by rw [a]; exact hl)
      · rw [List.getElem?_set_ne e]
        exact c j ((List.mem_cons.mp hj).elim (fun z => absurd z.symm e) id) hl
theorem wipeV (σ : L2.St) (vs : List Nat) : (wipe σ vs).length = σ.length ∧ (∀ j, j ∉ vs → (wipe σ vs)[j]? = σ[j]?) ∧ ∀ j, j ∈ vs → j < σ.length → (wipe σ vs)[j]? = some none := wipe_get σ wipe (fun _ => rfl) (fun _ _ _ => rfl) vs
theorem wipeD (ρ : Ev) (vs : List Nat) : (wipeE ρ vs).length = ρ.length ∧ (∀ j, j ∉ vs → (wipeE ρ vs)[j]? = ρ[j]?) ∧ ∀ j, j ∈ vs → j < ρ.length → (wipeE ρ vs)[j]? = some none := wipe_get ρ wipeE (fun _ => rfl) (fun _ _ _ => rfl) vs
/-- stores at the block's own names are forgotten -/
theorem wipe_same {σ σ2 : L2.St} {vs : List Nat} (hl : σ2.length = σ.length) (h : ∀ j, j ∉ vs → σ2[j]? = (wipe σ vs)[j]?) : wipe σ2 vs = wipe σ vs := by
  obtain ⟨a, b, c⟩ := wipeV σ vs
  obtain ⟨a2, b2, c2⟩ := wipeV σ2 vs
  refine List.ext_getElem? fun j => ?_
  by_cases hj : j ∈ vs
  · by_cases hs : j < σ.length
    · rw [c2 j hj (by rw [hl]; exact hs), c j hj hs]
    · rw [List.getElem?_eq_none (by rw [a2, hl]; omega), List.getElem?_eq_none (by rw [a]; omega)]
  · rw [b2 j hj, h j hj]
section
variable {K : PySem.W.Frag} {ι ι' : Lk} {H H' : Hp} {S : Sto}
theorem Cf.wiped {σ : L2.St} {ρ : Ev} (cf : Cf K ι H σ ρ S) (vs : List Nat) : Cf K ι H (wipe σ vs) (wipeE ρ vs) S := by
  obtain ⟨a, b, c⟩ := wipeV σ vs
  obtain ⟨a2, b2, c2⟩ := wipeD ρ vs
  refine ⟨cf.wd, by rw [a, a2]; exact cf.len, fun i d h => ?_⟩
  by_cases hi : i ∈ vs
  · by_cases hs : i < ρ.length
    · rw [c2 i hi hs] at h; cases h
    · rw [List.getElem?_eq_none (by rw [a2]; omega)] at h; cases h
  · rw [b2 i hi] at h
    rw [b i hi]
    exact cf.sv i d h
theorem Step.unhide {a : Addr} (st : Step (ι.hide a) H (ι'.hide a) H') : Step ι H ι' H' := ⟨by have := st.hid; exact (List.cons.inj this).2, st.len, st.old, st.new, st.keep, st.there⟩
theorem Step.isHide {a : Addr} {κ : Lk} (st : Step (ι.hide a) H κ H') : ∃ ι' : Lk, κ = ι'.hide a := ⟨⟨κ.ix, ι.hid⟩, by
  obtain ⟨ix, hid⟩ := κ
  have : hid = a :: ι.hid := st.hid
  subst this
  rfl⟩
/-- ahead of a new thing that is being made -/
theorem StepH.hide {a : Addr} {o : HO} (wd : Wd K ι H S) (ha : H a = none) : StepH ι H (ι.hide a) (upd H a o) :=
  ⟨fun _ _ h => .inl h, fun b hb => (has_hide hb).elim .inl fun e => .inr (by rw [e]; exact ha), fun b u h _ => by rw [upd_ne (ne_of_none h ha)]; exact h⟩
/-- what is being made changes -/
theorem StepH.made {a : Addr} {o : HO} : StepH (ι.hide a) H (ι.hide a) (upd H a o) :=
  ⟨fun _ _ h => .inl h, fun b hb => .inl hb, fun b u h hn => by
    have : b ≠ a := fun e => hn (.inr (by rw [e]; exact List.mem_cons_self))
    rw [upd_ne this]; exact h⟩
theorem StepH.trans {κ : Lk} {G : Hp} (a : StepH ι H ι' H') (b : StepH ι' H' κ G) (t : ∀ x, H' x = none → H x = none) : StepH ι H κ G :=
  ⟨fun n o h => (a.old n o h).elim (b.old n o) fun q => (b.old n none q).elim .inr .inr, fun x hx => (b.has x hx).elim (a.has x) fun q => .inr (t x q), fun x o h hn => b.keep x o (a.keep x o h hn) (a.out h hn)⟩
theorem Wd.made {a : Addr} {o : HO} (wd : Wd K (ι.hide a) H S) : Wd K (ι.hide a) (upd H a o) S := by
  have hda := wd.hd a List.mem_cons_self
  refine ⟨wd.len, wd.nd, fun n ob e => ?_, fun b hb => ⟨fun z => ?_, (wd.hd b hb).2⟩⟩
  · have q := wd.ob n ob e
    generalize hz : (ι.hide a).ix[n]? = z at q
    have ne : ∀ {x : Addr}, z = some (some x) → x ≠ a := fun hzx e => by
      subst hzx e
      exact hda.2 (List.mem_of_getElem? hz)
    cases q with
    | lst e1 r => exact .lst (by rw [upd_ne (ne rfl)]; exact e1) (r.monoH StepH.made)
    | dic e1 r => exact .dic (by rw [upd_ne (ne rfl)]; exact e1) (r.monoH StepH.made)
    | gone => exact .gone
  · by_cases e : b = a
    · rw [e, upd_same] at z; cases z
    · rw [upd_ne e] at z; exact (wd.hd b hb).1 z
theorem Step.made {a : Addr} {o : HO} {ι0 : Lk} {H0 : Hp} (st : Step ι0 H0 ι H) (ha : H0 a = none) : Step ι0 H0 ι (upd H a o) :=
  ⟨st.hid, st.len, st.old, st.new, fun x u h hn => by rw [upd_ne (ne_of_none h ha)]; exact st.keep x u h hn, fun x h => by
    by_cases e : x = a
    · rw [e]; exact ha
    · rw [upd_ne e] at h; exact st.there x h⟩
end

def compL (g : CG) (t : CT) (e : CE) (tr : Option (Nat × List P)) (xs0 : List P) : List P → List P → Ev → Sto → R (List P)
  | [], acc, ρ, S => if okT tr xs0 S then .ok acc S else .no
  | x :: r, acc, ρ, S => if okT tr xs0 S then (g (.p x) ρ S).bind fun ρ1 S1 => (t ρ1 S1).bind fun b S2 =>
      if b then (e ρ1 S2).bind fun d S3 => match d with
        | .p y => if acc.length < sizeLine then compL g t e tr xs0 r (acc ++ [y]) ρ S3 else .no
        | .ref _ => .no
      else compL g t e tr xs0 r acc ρ S2
    else .no
def cComp (it : CI) (g : CG) (t : CT) (e : CE) (vs : List Nat) : CN := fun ρ S => (it ρ S).bind fun z S1 => compL g t e z.2 z.1 z.1 [] (wipeE ρ vs) S1
def cYes : CT := fun _ S => .ok true S
theorem lc_rd {K : PySem.W.Frag} {it : CI} {is vs : List Nat} {g : CG} {t : CT} {e : CE} {σ : L2.St} {H : Hp} {Q : VK} (hv : ∀ i ∈ is, i ∈ vs) (h : RdN K (cComp it g t e vs) σ H Q) : tLc (RdI K it) (RdG K is g) (RdT K t) (RdE K e) vs σ H Q := by
  obtain ⟨ι, ρ, S, cf, zs, S', e0, k⟩ := h
  obtain ⟨⟨xs, tr⟩, S1, e1, e2⟩ := bind_ok e0
  refine ⟨ι, ρ, S, cf, xs, tr, S1, e1, fun J ι1 H1 st1 wd1 go D hD => ?_⟩
  have e2 : compL g t e tr xs xs [] (wipeE ρ vs) S1 = .ok zs S' := e2
  have hD0 : H D = none := st1.there D hD
  have hDh : D ∉ ι1.hid := fun z => (wd1.hd D z).1 hD
  refine ⟨fun i m H2 => m + i = xs.length ∧ ∃ ι2 S2 acc us, Step ι1 H1 ι2 H2 ∧ Cf K (ι2.hide D) H2 (wipe σ vs) (wipeE ρ vs) S2 ∧ H2 D = some (.lst us) ∧ RPs K (ι2.hide D) H2 us acc ∧ compL g t e tr xs (xs.drop i) acc (wipeE ρ vs) S2 = .ok zs S',
    ⟨xs.length, by omega, ι1, S1, [], [], (Step.refl ι1 H1).made hD, ?_, upd_same, .nil, e2⟩, ?_⟩
  · have cfh : Cf K (ι1.hide D) (upd H1 D (.lst [])) σ ρ S1 := ⟨wd1.hidden hD _, cf.len, fun i d hd => by
      obtain ⟨v, hv, r⟩ := cf.sv i d hd
      exact ⟨v, hv, (r.mono st1).monoH (StepH.hide wd1 hD)⟩⟩
    exact cfh.wiped vs
  rintro i m H2 ⟨hm, ι2, S2, acc, us, st2, cf2, hus, rus, e3⟩
  have hda := cf2.wd.hd D List.mem_cons_self
  have gstep : StepH ι1 H1 (ι2.hide D) H2 := ⟨st2.old, fun b hb => (has_hide hb).elim (st2.h.has b) fun e => .inr (by rw [e]; exact hD), st2.h.keep⟩
  cases hx : xs.drop i with
  | nil =>
    rw [hx] at e3
    unfold compL at e3
    have hi : xs.length ≤ i := List.drop_eq_nil_iff.mp hx
    have hi2 : i = xs.length := by omega
    by_cases ok : okT tr xs S2 = true
    · simp only [ok, if_true] at e3
      cases e3
      refine .inl ⟨by rw [hi2]; exact (go _ H2 _ gstep cf2.wd ok).2, ?_⟩
      refine k D us ι2 H2 (st1.trans st2) cf2.wd hD0 (fun z => ?_) hus rus
      rcases z with z | z
      · exact hda.2 z
      · rw [st2.hid] at z; exact hDh z
    · simp only [ok] at e3
      cases e3
  | cons x r =>
    obtain ⟨hxi, hr⟩ := drop_at hx
    have hil : i < xs.length := by
      rcases Nat.lt_or_ge i xs.length with q | q
      · exact q
      · rw [List.getElem?_eq_none q] at hxi; cases hxi
    rw [hx] at e3
    unfold compL at e3
    by_cases ok : okT tr xs S2 = true
    · simp only [ok, if_true] at e3
      obtain ⟨gg, gy⟩ := (go _ H2 _ gstep cf2.wd ok).1 i x hxi
      refine .inr ⟨gg, fun H2 => ∃ ι2 S2 acc us, Step ι1 H1 ι2 H2 ∧ Cf K (ι2.hide D) H2 (wipe σ vs) (wipeE ρ vs) S2 ∧ H2 D = some (.lst us) ∧ RPs K (ι2.hide D) H2 us acc ∧ compL g t e tr xs (xs.drop (i + 1)) acc (wipeE ρ vs) S2 = .ok zs S',
        fun H' q => ⟨m - 1, by omega, by omega, q⟩, fun v H' y => ?_⟩
      obtain ⟨st3, wd3, rv⟩ := gy v H' y
      obtain ⟨ρ4, S4, e4, e5⟩ := bind_ok e3
      obtain ⟨b, S5, e6, e7⟩ := bind_ok e5
      refine ⟨_, wipeE ρ vs, S2, .p x, cf2.step st3 wd3, .p rv, ρ4, S4, e4, fun σ4 κ4 H4 st4 cf4 hlen hσ => ?_⟩
      refine ⟨wipe_same (hlen.trans (wipeV σ vs).1) fun j hj => hσ j fun z => hj (hv j z), ?_⟩
      refine RdT.run cf4 e6 fun κ5 H5 st5 cf5 => ?_
      have stA := (st3.trans st4).trans st5
      cases b with
      | false =>
        rw [if_neg Bool.false_ne_true] at e7 ⊢
        obtain ⟨ι5, rfl⟩ := stA.isHide
        exact ⟨ι5, S5, acc, us, st2.trans stA.unhide, cf2.step stA cf5.wd, stA.keep D _ hus hda.2, rus.mono stA, by rw [hr]; exact e7⟩
      | true =>
        rw [if_pos rfl] at e7 ⊢
        obtain ⟨d, S6, e8, e9⟩ := bind_ok e7
        refine RdE.run cf5 e8 fun w κ6 H6 st6 cf6 r6 => ?_
        split at e9
        · rename_i y
          split at e9
          · rename_i hl
            have stB := stA.trans st6
            obtain ⟨ι6, rfl⟩ := stB.isHide
            have rB := rus.mono stB
            cases r6 with
            | p r6 =>
              refine ⟨us, stB.keep D _ hus hda.2, by rw [rB.length]; exact hl, ι6, S6, acc ++ [y], us ++ [w], (st2.trans stB.unhide).made hD, ⟨cf6.wd.made, cf2.len, fun j d hd => ?_⟩, upd_same, (rB.app (.cons r6 .nil)).monoH StepH.made, by rw [hr]; exact e9⟩
              obtain ⟨v', hv', r'⟩ := cf2.sv j d hd
              exact ⟨v', hv', (r'.mono stB).monoH StepH.made⟩
          · cases e9
        · cases e9
    · simp only [ok] at e3
      cases e3
structure PTsR (X : Cx) (ifs : List Expr) (t : CT) : Prop where
  run : PTs X ifs (RdT X.K t)
theorem rts_nil {X : Cx} : PTsR X [] cYes := ⟨⟨fun pins s σ H Q I ⟨ι, ρ, S, cf, b, S', e, k⟩ => by
  cases e
  exact pts_nil.run pins s σ H Q I (k ι H (.refl _ _) cf.wd)⟩⟩
theorem rts_one {X : Cx} {c : Expr} {t : CT} (h : PT X c (RdT X.K t)) : PTsR X [c] t := ⟨pts_one h⟩
section
variable {X : Cx} {elt tg iter : Expr} {ifs : List Expr} {scope : Scope} {own : List (Str × Nat)} {pos : Pos} {it : CI} {is : List Nat} {g : CG} {t : CT} {e : CE}
theorem rn_lc (hc : X.calm = true) (hN : X.N.Nodup) (hi : PI X tg iter (RdI X.K it)) (ok : blkC X.N X.env.scope scope own = true)
    (hg : ∀ (s : Shared) (H : Hp) (C : Addr) (cl : List (Str × Addr)) (fp : List Addr), PG (X.blk s H scope (compEnvC scope cl C X.env) fp) tg (RdG X.K is g)) (ht : ∀ (s : Shared) (H : Hp) (C : Addr) (cl : List (Str × Addr)) (fp : List Addr), PTsR (X.blk s H scope (compEnvC scope cl C X.env) fp) ifs t)
    (he : ∀ (s : Shared) (H : Hp) (C : Addr) (cl : List (Str × Addr)) (fp : List Addr), PE (X.blk s H scope (compEnvC scope cl C X.env) fp) elt (RdE X.K e)) (hv : (is.all fun i => (own.map (·.2)).contains i) = true := by rfl) (hs : ∀ x, foldedSetIterable iter X.env x = pure x := by intro _; rfl) :
    PE X (.ListComp elt [⟨tg, iter, ifs, 0⟩] scope pos) (RdN X.K (cComp it g t e (own.map (·.2)))) :=
  (pe_lc hc hN hi (blkOk_by ok) hg (fun s H C cl fp => (ht s H C cl fp).run) he hs).weak fun σ H Q h => lc_rd (fun i hi => by
    have := List.all_eq_true.mp hv i hi
    simpa using this) h
def sSetN (i : Nat) (c : CE) : CS := sAsg c (gN i)
/-- y = [..] on one line: as one that stands, as a thing of the store -/
theorem ro_rd {K : PySem.W.Frag} {cn : CN} {σ : L2.St} {H : Hp} {Q : VK} (h : RdE K (cRo cn) σ H Q) : RdN K cn σ H Q := by
  obtain ⟨ι, ρ, S, cf, d, S', e, k⟩ := h
  obtain ⟨xs, S1, e1, e2⟩ := bind_ok e
  cases e2
  refine ⟨ι, ρ, S, cf, xs, S', e1, fun a vs ι' H' st wd h1 h2 h3 r => ?_⟩
  exact k _ ι' H' st wd.unhide (.p (.ro (.inl h3) h2 (r.has (hide_has ι' a))))
theorem tr_rd {K : PySem.W.Frag} {cn : CN} {σ : L2.St} {H : Hp} {Q : VK} (h : RdE K (cTr cn) σ H Q) : RdN K cn σ H Q := by
  obtain ⟨ι, ρ, S, cf, d, S', e, k⟩ := h
  obtain ⟨xs, S1, e1, e2⟩ := bind_ok e
  cases e2
  refine ⟨ι, ρ, S, cf, xs, S1, e1, fun a vs ι' H' st wd h1 h2 h3 r => ?_⟩
  have hlen : ι'.ix.length = S1.length := wd.len
  have hat : (ι'.ix ++ [some a])[S1.length]? = some (some a) := by rw [← hlen, List.getElem?_append_right (Nat.le_refl _), Nat.sub_self]; rfl
  exact k _ (ι'.add a) H' (Step.added st h1) (Wd.added wd h2 h3 r) (.ref (n := S1.length) (o := some a) hat fun b z => by cases z; rfl)
variable {y : Str} {py spos : Pos} {i : Nat}
theorem lcset_rd {K : PySem.W.Frag} {t : TE} {c : CE} {E : Ends} {σ : L2.St} {H : Hp} (k : ∀ σ H Q, RdE K c σ H Q → t σ H Q) (h : RdS K (sAsg c (gN i)) E σ H) : tAsg t (gName i) E σ H := by
  obtain ⟨ι, ρ, S, cf, f, S', e, k'⟩ := h
  obtain ⟨d, S1, e1, e2⟩ := bind_ok e
  obtain ⟨ρ2, S2, e3, e4⟩ := bind_ok e2
  cases e4
  cases e3
  refine k σ H _ (RdE.run cf e1 fun v ι1 H1 st1 cf1 r1 => ?_)
  exact k' _ ι1 H1 st1 (cf1.set r1 i)
theorem rs_setLc {c : CE} (hk : ∀ σ H Q, RdE X.K c σ H Q → RdN X.K (cComp it g t e (own.map (·.2))) σ H Q) (hc : X.calm = true) (hN : X.N.Nodup) (hy : X.N[i]? = some y) (hyl : X.env.scope.names.lookup y = some .local)
    (hsw : swapsWith (.ListComp elt [⟨tg, iter, ifs, 0⟩] scope pos) (some (.Name y py)) spos.line X.env = pure true) (hi : PI X tg iter (RdI X.K it)) (ok : blkC X.N X.env.scope scope own = true)
    (hg : ∀ (s : Shared) (H : Hp) (C : Addr) (cl : List (Str × Addr)) (fp : List Addr), PG (X.blk s H scope (compEnvC scope cl C X.env) fp) tg (RdG X.K is g)) (ht : ∀ (s : Shared) (H : Hp) (C : Addr) (cl : List (Str × Addr)) (fp : List Addr), PTsR (X.blk s H scope (compEnvC scope cl C X.env) fp) ifs t)
    (he : ∀ (s : Shared) (H : Hp) (C : Addr) (cl : List (Str × Addr)) (fp : List Addr), PE (X.blk s H scope (compEnvC scope cl C X.env) fp) elt (RdE X.K e)) (hv : (is.all fun i => (own.map (·.2)).contains i) = true := by rfl) (hs : ∀ x, foldedSetIterable iter X.env x = pure x := by intro _; rfl) :
    PS X (.Assign [.Name y py] (.ListComp elt [⟨tg, iter, ifs, 0⟩] scope pos) spos) (RdS X.K (sAsg c (gN i))) :=
  (ps_setLc (i := i) hc hN hy hyl hsw hi (blkOk_by ok) hg (fun s H C cl fp => (ht s H C cl fp).run) he hs).weak fun E σ H h => lcset_rd (fun σ H Q q => lc_rd (fun i hi => by
    have := List.all_eq_true.mp hv i hi
    simpa using this) (hk σ H Q q)) h
end
end Cw
set_option Elab.async false
set_option linter.all false
set_option maxRecDepth 100000
set_option maxHeartbeats 4000000
/-! Cw11: what changes: lists and dicts of the store. -/
namespace Cw
open PySem PySem.Spec PyProof.Rows L2

section
variable {K : PySem.W.Frag} {ι ι' : Lk} {H H' : Hp} {S : Sto}
theorem Wd.lt (wd : Wd K ι H S) {n : Nat} {a : Addr} (h : ι.ix[n]? = some (some a)) : n < S.length := by
  rw [← wd.len]
  rcases Nat.lt_or_ge n ι.ix.length with q | q
  · exact q
  · rw [List.getElem?_eq_none q] at h; cases h
/-- a thing of the store changes -/
theorem StepH.write {a : Addr} {o : HO} (h : some a ∈ ι.ix) : StepH ι H ι (upd H a o) :=
  ⟨fun _ _ h => .inl h, fun _ h => .inl h, fun b u hb hn => by rw [upd_ne (fun e => hn (.inl (by rw [e]; exact h)))]; exact hb⟩
theorem Step.write {a : Addr} {o : HO} (h : some a ∈ ι.ix) : Step ι H ι (upd H a o) :=
  ⟨rfl, Nat.le_refl _, fun _ _ h => .inl h, fun _ h => .inl h, fun b u hb hn => by rw [upd_ne (fun e => hn (by rw [e]; exact h))]; exact hb, fun b hb => by
    by_cases e : b = a
    · rw [e, upd_same] at hb; cases hb
    · rw [upd_ne e] at hb; exact hb⟩
theorem Wd.write (wd : Wd K ι H S) {n : Nat} {a : Addr} {o : HO} {ob : Ob} (h : ι.ix[n]? = some (some a)) (q : ROb K ι (upd H a o) (some (some a)) ob) : Wd K ι (upd H a o) (S.set n ob) := by
  have hm := List.mem_of_getElem? h
  refine ⟨by rw [List.length_set]; exact wd.len, wd.nd, fun m o' e => ?_, fun b hb => ⟨fun z => (wd.hd b hb).1 ((Step.write hm).there b z), (wd.hd b hb).2⟩⟩
  by_cases hmn : n = m
  · subst hmn
    rw [List.getElem?_set_self (wd.lt h)] at e
    cases e
    rw [h]; exact q
  · rw [List.getElem?_set_ne hmn] at e
    have z := wd.ob m o' e
    generalize hz : ι.ix[m]? = w at z
    have ne : ∀ {x : Addr}, w = some (some x) → x ≠ a := fun hx e => by
      subst hx e
      exact hmn (wd.nd n m _ h hz)
    cases z with
    | lst e1 r => exact .lst (by rw [upd_ne (ne rfl)]; exact e1) (r.mono (Step.write hm))
    | dic e1 r => exact .dic (by rw [upd_ne (ne rfl)]; exact e1) (r.mono (Step.write hm))
    | gone => exact .gone
end
/-! ### methods of built-ins -/
def LkM (K : PySem.W.Frag) (r : V → List V → Hp → VK → Prop) (g : D → List D → Sto → R D) (x : D) (ds : List D) (S : Sto) : Prop :=
  ∀ (ι : Lk) (H : Hp) (v : V) (vs : List V) (d : D) (S' : Sto) (Q : VK), Wd K ι H S → RD K ι H v x → RDs K ι H vs ds → g x ds S = .ok d S' → (∀ z ι' H', Step ι H ι' H' → Wd K ι' H' S' → RD K ι' H' z d → Q z H') → r v vs H Q
def WaysM (X : Cx) (id : String) (g : D → List D → Sto → R D) : Prop := ∀ x ds S d S', g x ds S = .ok d S' → ∃ r, MtM X id r ∧ LkM X.K r g x ds S
/-- of which built-in class a value is, for its methods -/
def isTy (T : String) (d : D) (S : Sto) : Bool := match d with
  | .p (.str _) => T == "str"
  | .ref n => match S[n]? with
    | some (.lst _) => T == "list"
    | some (.dic _) => T == "dict"
    | _ => false
  | .p (.ro _) => T == "list"
  | .p (.scr _) => T == "list"
  | _ => false
theorem ty_is {K : PySem.W.Frag} {ι : Lk} {H : Hp} {S : Sto} (wd : Wd K ι H S) {T : String} {v : V} {d : D} (r : RD K ι H v d) (h : isTy T d S = true) : tyV K T v H := by
  cases d with
  | p x =>
    cases x with
    | str s =>
      obtain ⟨rfl, _⟩ := r.strD
      exact eq_of_beq h
    | ro xs =>
      obtain ⟨a, vs, rfl, h1, _⟩ := wd.seqA r (d := .p (.ro xs)) rfl
      exact .inl ⟨eq_of_beq h, vs, h1⟩
    | scr xs =>
      obtain ⟨a, vs, rfl, h1, _⟩ := wd.seqA r (d := .p (.scr xs)) rfl
      exact .inl ⟨eq_of_beq h, vs, h1⟩
    | _ => cases h
  | ref n =>
    unfold isTy at h
    simp only at h
    split at h
    · rename_i xs hx
      obtain ⟨a, vs, rfl, _, h1, _⟩ := wd.lst r hx
      exact .inl ⟨eq_of_beq h, vs, .of h1⟩
    · rename_i xs hx
      obtain ⟨a, vs, rfl, _, h1, _⟩ := wd.dict r hx
      exact .inr (.inr (.inl ⟨eq_of_beq h, .inl ⟨vs, h1⟩⟩))
    · cases h
def cM (T : String) (g : D → List D → Sto → R D) (co : CE) (ca : CA) : CE := fun ρ S => (co ρ S).bind fun x S1 => if isTy T x S1 then (ca ρ S1).bind fun ds S2 => g x ds S2 else .no
def cM0 (T : String) (g : D → List D → Sto → R D) (co : CE) : CE := fun ρ S => (co ρ S).bind fun x S1 => if isTy T x S1 then g x [] S1 else .no
section
variable {X : Cx} {o e : Expr} {es : List Expr} {co : CE} {ca : CA} {name : Str} {apos cpos : Pos} {T id : String} {g : D → List D → Sto → R D}
theorem re_m0 (w : WaysM X id g) (pa : PlainAttrs T) (slot : Slot T name id) (hty : typeOf (.builtin id) = pure (.type "method_descriptor")) (ho : PE X o (RdE X.K co))
    (hbase : attributeBase o name X.env (eval o X.env) = eval o X.env := by rfl) (hline : (apos.endLine == cpos.line) = true := by rfl) : PE X (.Call (.Attribute o name apos) [] [] cpos) (RdE X.K (cM0 T g co)) := by
  refine ⟨fun pins s σ H Q I ⟨ι, ρ, S, cf, d, S', e0, k⟩ => ?_⟩
  obtain ⟨x, S1, e1, e2⟩ := bind_ok e0
  split at e2
  · rename_i ht
    obtain ⟨r, hr, hl⟩ := w x [] S1 d S' e2
    refine (pe_bm0 pa slot hty hr ho hbase hline).run pins s σ H Q I ?_
    exact RdE.run cf e1 fun v ι1 H1 st1 cf1 r1 => ⟨ty_is cf1.wd r1 ht, hl ι1 H1 v [] d S' Q cf1.wd r1 .nil e2 fun z ι' H' st wd rz => k z ι' H' (st1.trans st) wd rz⟩
  · cases e2
theorem re_m (w : WaysM X id g) (pa : PlainAttrs T) (slot : Slot T name id) (hty : typeOf (.builtin id) = pure (.type "method_descriptor")) (ho : PE X o (RdE X.K co)) (ha : PA X (e :: es) (RdA X.K ca))
    (hbase : attributeBase o name X.env (eval o X.env) = eval o X.env := by rfl)
    (hfew : ((backTo cpos (starEach (e :: es) X.env)).all (fun x => !x.1) && (backToKw cpos (keywordEach [] X.env)).all (fun x => x.1.isSome)
      && decide ((e :: es).length + ([] : List Keyword).length + (if ([] : List Keyword).isEmpty then 0 else 1) < 30)) = true := by rfl)
    (hline : (apos.endLine == cpos.line) = true := by rfl) (hs : starEach (e :: es) X.env = (false, eval e X.env) :: starEach es X.env := by rfl) (hplain : (backTo cpos (starEach es X.env)).any (·.1) = false := by rfl) :
    PE X (.Call (.Attribute o name apos) (e :: es) [] cpos) (RdE X.K (cM T g co ca)) := by
  refine ⟨fun pins s σ H Q I ⟨ι, ρ, S, cf, d, S', e0, k⟩ => ?_⟩
  obtain ⟨x, S1, e1, e2⟩ := bind_ok e0
  split at e2
  · rename_i ht
    obtain ⟨ds, S2, e3, e4⟩ := bind_ok e2
    obtain ⟨r, hr, hl⟩ := w x ds S2 d S' e4
    refine (pe_bm pa slot hty hr ho ha hbase hfew hline hs hplain).run pins s σ H Q I ?_
    refine RdE.run cf e1 fun v ι1 H1 st1 cf1 r1 => ⟨ty_is cf1.wd r1 ht, ?_⟩
    exact RdA.run cf1 e3 fun vs ι2 H2 st2 cf2 r2 => hl ι2 H2 v vs d S' Q cf2.wd (r1.mono st2) r2 e4 fun z ι' H' st wd rz => k z ι' H' ((st1.trans st2).trans st) wd rz
  · cases e2
end
/-! #### lists -/
/-- the list n becomes f of it, None is told -/
def onLst (x : D) (S : Sto) (f : List P → R (D × List P)) : R D := match x with
  | .ref n => match S[n]? with
    | some (.lst xs) => match f xs with
      | .ok (d, ys) _ => .ok d (S.set n (.lst ys))
      | _ => .no
    | _ => .no
  | _ => .no
theorem onLst_ok {x : D} {S S' : Sto} {d : D} {f : List P → R (D × List P)} (e : onLst x S f = .ok d S') : ∃ n xs ys T, x = .ref n ∧ S[n]? = some (.lst xs) ∧ f xs = .ok (d, ys) T ∧ S' = S.set n (.lst ys) := by
  unfold onLst at e
  split at e
  · split at e
    · rename_i xs hx
      split at e
      · rename_i d' ys T hf
        cases e
        exact ⟨_, xs, ys, T, rfl, hx, hf, rfl⟩
      · cases e
    · cases e
  · cases e
def gAppend : D → List D → Sto → R D := fun x ds S => onLst x S fun xs => match ds with
  | [.p y] => if xs.length < sizeLine then .ok (.p .non, xs ++ [y]) [] else .no
  | _ => .no
theorem w_append {X : Cx} : WaysM X "list.append" gAppend := fun x ds S d S' e => ⟨_, mt_append, fun ι H v vs d S' Q wd r1 r2 e k => by
  obtain ⟨n, xs, ys, T, rfl, hx, hf, rfl⟩ := onLst_ok e
  split at hf
  · split at hf
    · rename_i y hl
      cases hf
      obtain ⟨a, us, rfl, hix, h1, q⟩ := wd.lst r1 hx
      obtain ⟨w, rfl, rw'⟩ := r2.one
      have hm := List.mem_of_getElem? hix
      cases rw' with
      | p ry => exact ⟨a, us, w, rfl, rfl, h1, by rw [q.length]; exact hl, k _ ι _ (Step.write hm) (wd.write hix (.lst upd_same ((q.app (.cons ry .nil)).mono (Step.write hm)))) (.p .non)⟩
    · cases hf
  · cases hf⟩
end Cw
namespace PySem.AutoSeq1
open PySem Builtin
set_option maxRecDepth 8000 in
/-- a tuple of any making put behind a list -/
theorem extTupG (l : Addr) (items : Array Value) (n : Nat) (b : Addr) (more : Array Value) (k : Nat) (dd : Option Addr) (sl : Array (Option Value)) (h0 : ¬(!items.isEmpty && Builtin.List.listTooLong (items.size + more.size)) = true) (h1 : items.size ≤ sizeLine) (h2 : items.size + more.size ≤ sizeLine + 1) :
    Meets (Builtin.«list.extend» ⟨[.ref l, .ref b], []⟩) (fun _ R s => s.heap.get? l = some { cls := .type "list", dict := none, data := .seq items n, slots := #[] } ∧ s.heap.get? b = some { cls := .type "tuple", dict := dd, data := .seq more k, slots := sl } ∧
      R (.ok (.ret Value.none)) { s with heap := s.heap.update l (Obj.mapSeq fun x => x ++ more), toks := s.toks }) :=
  .of_wp fun prog w A R s h => by
    obtain ⟨hp, g, d, tk, os⟩ := s
    obtain ⟨hl, hb, h⟩ := h
    have q1 := idx_int
    have q2 := sub_tuple_tuple
    have q3 := sub_list_list
    have q4 := sub_tuple_list
    have q5 := sub_list_tuple
    have hz : (items ++ more).size ≤ sizeLine + 1 := by rw [Array.size_append]; exact h2
    wp_walk using (wpAny_updateSeq hl rfl (hz := h1) (_hz' := hz)), wpAny_loadPart' hl, wpAny_loadPart' hb
    exact ⟨_, rfl, h⟩
end PySem.AutoSeq1
namespace Cw
open PySem PySem.Spec PyProof.Rows L2
def rExtR (K : PySem.W.Frag) : V → List V → Hp → VK → Prop := fun x vs H Q => ∃ l b xs zs, x = .ref l ∧ vs = [.ref b] ∧ H l = some (.lst xs) ∧ (Rd H b (.lst zs) ∨ SqT K H b zs) ∧ xs.length + zs.length ≤ sizeLine ∧ Q .non (upd H l (.lst (xs ++ zs)))
theorem mt_extR {X : Cx} : MtM X "list.extend" (rExtR X.K) := by
  intro pins s σ H x vs v us Q I rx rv h
  obtain ⟨l, b, xs, zs, rfl, rfl, hH, hB, hz, q⟩ := h
  cases rx
  obtain ⟨u, rfl, ru⟩ := Vals.one rv
  cases ru
  obtain ⟨z, its, n, r, hl, e⟩ := lstR I (.inl hH)
  rcases hB with hB | hB
  · obtain ⟨z2, its2, n2, r2, hl2, e2⟩ := lstR I hB
    have hsz : its.toArray.size + its2.toArray.size ≤ sizeLine := by rw [List.size_toArray, List.size_toArray]; omega
    have hlong : ¬ (!its.toArray.isEmpty && Builtin.List.listTooLong (its.toArray.size + its2.toArray.size)) = true := by
      rw [notLongL hsz, Bool.and_false]
      exact Bool.false_ne_true
    refine call_meets F.slot_list_extend ⟨_, e, rfl⟩ F.entry_list_extend (F.args_list_extend_2 _ _)
      (AutoSeq1.list_extend_list_list_0 l its.toArray n b its2.toArray n2 hlong (by rw [List.size_toArray]; omega) (by omega)) ⟨e, e2, ?_⟩
    refine ⟨.non, _, L2.Inv.lset (its' := its ++ its2) I hH e (by simp) (r.append r2) ?_, rfl, q⟩
    rw [List.length_append]
    omega
  · obtain ⟨its2, r2, ⟨ob, e2, hc, n2, hd⟩, z2⟩ := I.tuple hB
    have hl2 := r2.length
    have hsz : its.toArray.size + its2.toArray.size ≤ sizeLine := by rw [List.size_toArray, List.size_toArray]; omega
    have hlong : ¬ (!its.toArray.isEmpty && Builtin.List.listTooLong (its.toArray.size + its2.toArray.size)) = true := by
      rw [notLongL hsz, Bool.and_false]
      exact Bool.false_ne_true
    obtain ⟨oc, od, dt, sl⟩ := ob
    simp only at hc hd
    subst hc hd
    refine call_meets F.slot_list_extend ⟨_, e, rfl⟩ F.entry_list_extend (F.args_list_extend_2 _ _)
      (AutoSeq1.extTupG l its.toArray n b its2.toArray n2 od sl hlong (by rw [List.size_toArray]; omega) (by omega)) ⟨e, e2, ?_⟩
    refine ⟨.non, _, L2.Inv.lset (its' := its ++ its2) I hH e (by simp) (r.append r2) ?_, rfl, q⟩
    rw [List.length_append]
    omega
def gExtend : D → List D → Sto → R D := fun x ds S => onLst x S fun xs => match ds with
  | [y] => match seqL y S with
    | some zs => if xs.length + zs.length ≤ sizeLine then .ok (.p .non, xs ++ zs) [] else .no
    | none => match y with
      | .p (.tup zs) => if xs.length + zs.length ≤ sizeLine then .ok (.p .non, xs ++ zs) [] else .no
      | _ => .no
  | _ => .no
theorem w_extend {X : Cx} : WaysM X "list.extend" gExtend := fun x ds S d S' e => ⟨_, mt_extR, fun ι H v vs d S' Q wd r1 r2 e k => by
  obtain ⟨n, xs, ys, T, rfl, hx, hf, rfl⟩ := onLst_ok e
  obtain ⟨a, us, rfl, hix, h1, q⟩ := wd.lst r1 hx
  have hm := List.mem_of_getElem? hix
  split at hf
  · split at hf
    · rename_i y zs hz
      split at hf
      · rename_i hl
        cases hf
        obtain ⟨w, rfl, ry⟩ := r2.one
        obtain ⟨b, ws, rfl, h2, q2⟩ := wd.seq ry hz
        exact ⟨a, b, us, ws, rfl, rfl, h1, .inl h2, by rw [q.length, q2.length]; exact hl, k _ ι _ (Step.write hm) (wd.write hix (.lst upd_same ((q.app q2).mono (Step.write hm)))) (.p .non)⟩
      · cases hf
    · split at hf
      · split at hf
        · rename_i hl
          cases hf
          obtain ⟨w, rfl, ry⟩ := r2.one
          obtain ⟨b, ws, rfl, h2, q2⟩ := ry.tupD
          exact ⟨a, b, us, ws, rfl, rfl, h1, .inr h2.sq, by rw [q.length, q2.length]; exact hl, k _ ι _ (Step.write hm) (wd.write hix (.lst upd_same ((q.app q2).mono (Step.write hm)))) (.p .non)⟩
        · cases hf
      · cases hf
  · cases hf⟩
theorem RPs.dropLast {K : PySem.W.Frag} {ι : Lk} {H : Hp} {vs : List V} {xs : List P} (r : RPs K ι H vs xs) : RPs K ι H vs.dropLast xs.dropLast := by
  rw [List.dropLast_eq_take, List.dropLast_eq_take, r.length]
  exact r.take _
def gPop0 : D → List D → Sto → R D := fun x ds S => onLst x S fun xs => match ds with
  | [] => match xs[xs.length - 1]? with
    | some y => .ok (.p y, xs.dropLast) []
    | none => .no
  | _ => .no
theorem w_pop0 {X : Cx} : WaysM X "list.pop" gPop0 := fun x ds S d S' e => ⟨_, mt_pop, fun ι H v vs d S' Q wd r1 r2 e k => by
  obtain ⟨n, xs, ys, T, rfl, hx, hf, rfl⟩ := onLst_ok e
  obtain ⟨a, us, rfl, hix, h1, q⟩ := wd.lst r1 hx
  have hm := List.mem_of_getElem? hix
  split at hf
  · split at hf
    · rename_i y hy
      cases hf
      cases r2
      obtain ⟨w, hw, rw'⟩ := q.get hy
      exact ⟨a, us, w, rfl, rfl, h1, by rw [q.length]; exact hw, k _ ι _ (Step.write hm) (wd.write hix (.lst upd_same (q.dropLast.mono (Step.write hm)))) (.p (rw'.mono (Step.write hm)))⟩
    · cases hf
  · cases hf⟩
def gPopAt : D → List D → Sto → R D := fun x ds S => onLst x S fun xs => match ds with
  | [.p (.int i)] => match ixN xs.length i with
    | some j => match xs[j]? with
      | some y => if -(2 ^ 63) ≤ i ∧ i < 2 ^ 63 then .ok (.p y, xs.eraseIdx j) [] else .no
      | none => .no
    | none => .no
  | _ => .no
theorem w_popAt {X : Cx} : WaysM X "list.pop" gPopAt := fun x ds S d S' e => ⟨_, mt_popAt, fun ι H v vs d S' Q wd r1 r2 e k => by
  obtain ⟨n, xs, ys, T, rfl, hx, hf, rfl⟩ := onLst_ok e
  obtain ⟨a, us, rfl, hix, h1, q⟩ := wd.lst r1 hx
  have hm := List.mem_of_getElem? hix
  split at hf
  · split at hf
    · rename_i j hj
      split at hf
      · rename_i y hy
        split at hf
        · rename_i hb
          cases hf
          obtain ⟨w, rfl, ri⟩ := r2.one
          cases ri.intD
          obtain ⟨w, hw, rw'⟩ := q.get hy
          exact ⟨a, us, _, j, w, rfl, rfl, h1, hb.1, hb.2, by rw [q.length]; exact (ixN_seq hj).1, hw, k _ ι _ (Step.write hm) (wd.write hix (.lst upd_same ((q.erase j).mono (Step.write hm)))) (.p (rw'.mono (Step.write hm)))⟩
        · cases hf
      · cases hf
    · cases hf
  · cases hf⟩
/-! #### o[i] = v -/
def gSetL (o i v : D) (S : Sto) : R Unit := match o, i, v with
  | .ref n, .p (.int j), .p y => match S[n]? with
    | some (.lst xs) => match ixN xs.length j with
      | some m => .ok () (S.set n (.lst (xs.set m y)))
      | none => .no
    | _ => .no
  | _, _, _ => .no
def putP (kvs : List (Key × P)) (k : Key) (v : P) : List (Key × P) := if kvs.any (fun kv => decide (kv.1 = k)) then kvs.map (fun kv => if kv.1 = k then (kv.1, v) else kv) else kvs ++ [(k, v)]
def gSetD (o i v : D) (S : Sto) : R Unit := match o, i, v with
  | .ref n, .p j, .p y => match S[n]? with
    | some (.dic kvs) => match keyP j with
      | some k => if kvs.length < sizeLine then .ok () (S.set n (.dic (putP kvs k y))) else .no
      | none => .no
    | _ => .no
  | _, _, _ => .no
section
variable {K : PySem.W.Frag} {ι : Lk} {H : Hp}
theorem RKs.app : ∀ {vs ws : List (Key × V)} {xs ys : List (Key × P)}, RKs K ι H vs xs → RKs K ι H ws ys → RKs K ι H (vs ++ ws) (xs ++ ys)
  | _, _, _, _, .nil, s => s
  | _, _, _, _, .cons r t, s => .cons r (t.app s)
theorem RKs.anyK (k : Key) : ∀ {vs : List (Key × V)} {xs : List (Key × P)}, RKs K ι H vs xs → (vs.any fun kv => decide (kv.1 = k)) = xs.any fun kv => decide (kv.1 = k)
  | _, _, .nil => rfl
  | _, _, .cons _ t => by rw [List.any_cons, List.any_cons, t.anyK k]
theorem RKs.repl (k : Key) {w : V} {y : P} (r : RP K ι H w y) : ∀ {vs : List (Key × V)} {xs : List (Key × P)}, RKs K ι H vs xs → RKs K ι H (vs.map fun kv => if kv.1 = k then (kv.1, w) else kv) (xs.map fun kv => if kv.1 = k then (kv.1, y) else kv)
  | _, _, .nil => .nil
  | _, _, .cons (k := j) q t => by
    rw [List.map_cons, List.map_cons]
    by_cases e : j = k
    · simp only [e, if_true]
      exact .cons r (t.repl k r)
    · simp only [e, if_false]
      exact .cons q (t.repl k r)
theorem RKs.put (k : Key) {w : V} {y : P} (r : RP K ι H w y) {vs : List (Key × V)} {xs : List (Key × P)} (q : RKs K ι H vs xs) : RKs K ι H (putK vs k w) (putP xs k y) := by
  unfold putK putP
  rw [q.anyK k]
  split
  · exact q.repl k r
  · exact q.app (.cons r .nil)
end
theorem set_dict {X : Cx} (hu : X.A.units + 65 < cLine) : PSet X (fun o i v H Q => ∃ a H4, o = .ref a ∧ DPut H a i v H4 ∧ Q H4) := by
  intro pins s σ H o i v ov iv u Q I ro ri rv h
  obtain ⟨a, H4, rfl, g, q⟩ := h
  obtain rfl : ov = Value.ref a := ro
  exact d_setItem (by omega) I g ri rv fun s4 I4 => ⟨H4, I4, q⟩
theorem PSet.or {X : Cx} {t t' : TSet} (h : PSet X t) (h' : PSet X t') : PSet X (fun o i v H Q => t o i v H Q ∨ t' o i v H Q) := fun pins s σ H o i v ov iv u Q I ro ri rv q => q.elim (h pins s σ H o i v ov iv u Q I ro ri rv) (h' pins s σ H o i v ov iv u Q I ro ri rv)
def gSet (o i v : D) (S : Sto) : R Unit := match gSetL o i v S with
  | .no => gSetD o i v S
  | r => r
def gAt (co ci : CE) : CG := fun d ρ S => (co ρ S).bind fun x S1 => (ci ρ S1).bind fun y S2 => (gSet x y d S2).bind fun _ S3 => .ok ρ S3
theorem set_rd {X : Cx} {o i v : D} {S S' : Sto} {ι : Lk} {H : Hp} {ov iv vv : V} {Q : Hp → Prop} (wd : Wd X.K ι H S) (ro : RD X.K ι H ov o) (ri : RD X.K ι H iv i) (rv : RD X.K ι H vv v) (e : gSet o i v S = .ok () S') (k : ∀ H', Step ι H ι H' → Wd X.K ι H' S' → Q H') :
    rSetL ov iv vv H Q ∨ ∃ a H4, ov = .ref a ∧ DPut H a iv vv H4 ∧ Q H4 := by
  unfold gSet at e
  split at e
  · unfold gSetD at e
    split at e
    · split at e
      · rename_i kvs hk
        split at e
        · rename_i ky hky
          split at e
          · rename_i hl
            cases e
            obtain ⟨a, us, rfl, hix, h1, q⟩ := wd.dict ro hk
            have hm := List.mem_of_getElem? hix
            cases ri with
            | p ri =>
              cases ri.key hky
              cases rv with
              | p rv => exact .inr ⟨a, _, rfl, DPut.k h1 (by rw [q.length]; exact hl), k _ (Step.write hm) (wd.write hix (.dic upd_same ((q.put ky rv).mono (Step.write hm))))⟩
          · cases e
        · cases e
      · cases e
    · cases e
  · rename_i hno
    unfold gSetL at e
    split at e
    · split at e
      · rename_i xs hx
        split at e
        · rename_i m hj
          cases e
          obtain ⟨a, us, rfl, hix, h1, q⟩ := wd.lst ro hx
          have hm := List.mem_of_getElem? hix
          cases ri.intD
          cases rv with
          | p rv => exact .inl ⟨a, us, _, m, rfl, rfl, h1, by rw [q.length]; exact hj, k _ (Step.write hm) (wd.write hix (.lst upd_same ((RPs.set rv m q).mono (Step.write hm))))⟩
        · cases e
      · cases e
    · cases e
theorem rg_sub {X : Cx} {o i : Expr} {co ci : CE} {pos : Pos} (hu : X.A.units + 65 < cLine) (ho : PE X o (RdE X.K co)) (hi : PE X i (RdE X.K ci))
    (ha : ∀ v, assign (.Subscript o i pos) X.env v = (do
      let ov ← holding [v] (eval o X.env)
      let iv ← holding [v, ov] (eval i X.env)
      standAt pos
      holding [v, ov, iv] (setItem ov iv v)
      release [v, ov, iv] []) := by intro _; rfl) : PG X (.Subscript o i pos) (RdG X.K [] (gAt co ci)) :=
  (pg_sub ho hi (PSet.or set_list (set_dict hu)) ha).weak fun v σ H Q ⟨ι, ρ, S, d, cf, r, ρ', S', e, k⟩ => by
    obtain ⟨x, S1, e1, e2⟩ := bind_ok e
    obtain ⟨y, S2, e3, e4⟩ := bind_ok e2
    obtain ⟨_, S3, e5, e6⟩ := bind_ok e4
    cases e6
    refine RdE.run cf e1 fun ov ι1 H1 st1 cf1 r1 => RdE.run cf1 e3 fun iv ι2 H2 st2 cf2 r2 => ?_
    exact set_rd cf2.wd (r1.mono st2) r2 (r.mono (st1.trans st2)) e5 fun H' st wd => k σ ι2 H' ((st1.trans st2).trans st) (cf2.step st wd) rfl fun _ _ => rfl
/-! #### d.get, d.update -/
def gGet : D → List D → Sto → R D := fun x ds S => match dicL x S, ds with
  | some kvs, [.p k] => match keyP k with
    | some k => .ok (.p ((lookK kvs k).getD .non)) S
    | none => .no
  | some kvs, [.p k, .p z] => match keyP k with
    | some k => .ok (.p ((lookK kvs k).getD z)) S
    | none => .no
  | _, _ => .no
end Cw
set_option Elab.async false
set_option linter.all false
set_option maxRecDepth 100000
set_option maxHeartbeats 4000000
/-! Cw12: dicts made, asked, put together. -/
namespace Cw
open PySem PySem.Spec PyProof.Rows L2

theorem Wd.addedO {K : PySem.W.Frag} {ι' : Lk} {H' : Hp} {S1 : Sto} {a : Addr} {ob : Ob} (wd : Wd K (ι'.hide a) H' S1) (h2 : ¬ ι'.has a) (q : ROb K (ι'.hide a) H' (some (some a)) ob) : Wd K (ι'.add a) H' (S1 ++ [ob]) := by
  have w := Wd.added (vs := []) (xs := []) (H' := upd H' a (.lst [])) wd.made h2 upd_same .nil
  have e : upd (upd H' a (.lst [])) a (H' a |>.getD (.lst [])) = H' := by
    funext b
    by_cases hb : b = a
    · subst hb
      rw [upd_same]
      cases q with
      | lst e _ => rw [e]; rfl
      | dic e _ => rw [e]; rfl
    · rw [upd_ne hb, upd_ne hb]
  have hix : (ι'.add a).ix[S1.length]? = some (some a) := by
    have hl : ι'.ix.length = S1.length := wd.len
    show (ι'.ix ++ [some a])[S1.length]? = _
    rw [← hl, List.getElem?_append_right (Nat.le_refl _), Nat.sub_self]; rfl
  have z := w.write (o := (H' a).getD (.lst [])) (ob := ob) hix (by rw [e]; exact q.has fun _ => has_add)
  rw [e] at z
  have e2 : (S1 ++ [Ob.lst []]).set S1.length ob = S1 ++ [ob] := by
    rw [List.set_append_right _ _ (Nat.le_refl _), Nat.sub_self]; rfl
  rw [e2] at z
  exact z

abbrev CD := Ev → Sto → R (List (Key × P))
def PostD (K : PySem.W.Frag) (ι : Lk) (H : Hp) (r : R (List (Key × P))) (Q : VK) : Prop := ∃ xs S', r = .ok xs S' ∧ ∀ a vs ι' H', Step ι H ι' H' → Wd K (ι'.hide a) H' S' → H a = none → ¬ ι'.has a → H' a = some (.dK vs) → RKs K (ι'.hide a) H' vs xs → Q (.ref a) H'
def RdD (K : PySem.W.Frag) (c : CD) : TE := fun σ H Q => ∃ ι ρ S, Cf K ι H σ ρ S ∧ PostD K ι H (c ρ S) Q
def cDo (c : CD) : CE := fun ρ S => (c ρ S).bind fun xs S1 => .ok (.p (.dic xs)) S1
def cDt (c : CD) : CE := fun ρ S => (c ρ S).bind fun xs S1 => .ok (.ref S1.length) (S1 ++ [.dic xs])
section
variable {X : Cx} {e : Expr} {c : CD}
theorem re_do (h : PE X e (RdD X.K c)) : PE X e (RdE X.K (cDo c)) := h.weak fun σ H Q ⟨ι, ρ, S, cf, d, S', e, k⟩ => by
  obtain ⟨xs, S1, e1, e2⟩ := bind_ok e
  cases e2
  exact ⟨ι, ρ, S, cf, xs, S', e1, fun a vs ι' H' st wd h1 h2 h3 r => k _ ι' H' st wd.unhide (.p (.dic (.of h3) h2 (r.has (hide_has ι' a))))⟩
theorem re_dt (h : PE X e (RdD X.K c)) : PE X e (RdE X.K (cDt c)) := h.weak fun σ H Q ⟨ι, ρ, S, cf, d, S', e, k⟩ => by
  obtain ⟨xs, S1, e1, e2⟩ := bind_ok e
  cases e2
  refine ⟨ι, ρ, S, cf, xs, S1, e1, fun a vs ι' H' st wd h1 h2 h3 r => ?_⟩
  have hlen : ι'.ix.length = S1.length := wd.len
  have hat : (ι'.ix ++ [some a])[S1.length]? = some (some a) := by rw [← hlen, List.getElem?_append_right (Nat.le_refl _), Nat.sub_self]; rfl
  exact k _ (ι'.add a) H' (Step.added st h1) (Wd.addedO wd h2 (.dic h3 r)) (.ref (n := S1.length) (o := some a) hat fun b z => by cases z; rfl)
end
def cDNew : CD := fun _ S => .ok [] S
theorem PostD.intro {K : PySem.W.Frag} {ι ι1 : Lk} {H H1 : Hp} {S1 S' : Sto} {xs : List (Key × P)} {vs : List (Key × V)} {Q : VK} (st1 : Step ι H ι1 H1) (wd1 : Wd K ι1 H1 S1) (r : RKs K ι1 H1 vs xs) (e : S1 = S')
    (k : ∀ a vs ι' H', Step ι H ι' H' → Wd K (ι'.hide a) H' S' → H a = none → ¬ ι'.has a → H' a = some (.dK vs) → RKs K (ι'.hide a) H' vs xs → Q (.ref a) H') : ∀ p, H1 p = none → Q (.ref p) (upd H1 p (.dK vs)) := fun p hp => by
  subst e
  exact k p vs ι1 _ (st1.trans (Step.new1 wd1 hp _)) (wd1.hidden hp _) (st1.there p hp) (wd1.fresh hp) upd_same (r.hideNew wd1 hp)
theorem rd_new {X : Cx} {pos : Pos} : PE X (.Dict [] [] pos) (RdD X.K cDNew) := pe_dnewK.weak fun σ H Q ⟨ι, ρ, S, cf, d, S', e, k⟩ => by
  cases e
  exact PostD.intro (.refl _ _) cf.wd .nil rfl k
/-! ### {k: v, ..} -/
def cPairs : List (CE × CE) → Ev → Sto → R (List (Key × P))
  | [], _, S => .ok [] S
  | (a, b) :: r, ρ, S => (a ρ S).bind fun x S1 => (b ρ S1).bind fun y S2 => match x, y with
    | .p x, .p y => match keyP x with
      | some k => (cPairs r ρ S2).bind fun ps S3 => .ok ((k, y) :: ps) S3
      | none => .no
    | _, _ => .no
def mergeP (kvs more : List (Key × P)) : List (Key × P) := more.foldl (fun acc kv => putP acc kv.1 kv.2) kvs
def cDisp (l : List (CE × CE)) : CD := fun ρ S => (cPairs l ρ S).bind fun ps S1 => if ps.length ≤ 15 then .ok (mergeP [] ps) S1 else .no
theorem RKs.merge {K : PySem.W.Frag} {ι : Lk} {H : Hp} : ∀ {ws : List (Key × V)} {ys : List (Key × P)} {vs : List (Key × V)} {xs : List (Key × P)}, RKs K ι H ws ys → RKs K ι H vs xs → RKs K ι H (mergeK vs ws) (mergeP xs ys)
  | _, _, _, _, .nil, s => s
  | _, _, _, _, .cons (k := j) r t, s => by
    have := RKs.merge t (s.put j r)
    exact this
theorem pairs_rd {K : PySem.W.Frag} {σ : L2.St} {ρ : Ev} : ∀ (l : List (CE × CE)) (ι : Lk) (H : Hp) (S S' : Sto) (ps : List (Key × P)) (Q : List (V × V) → Hp → Prop), Cf K ι H σ ρ S → cPairs l ρ S = .ok ps S' →
    (∀ ws ι' H', Step ι H ι' H' → Wd K ι' H' S' → RKs K ι' H' ws ps → Q (ws.map fun kv => (kV kv.1, kv.2)) H') → tPairs (l.map fun z => (RdE K z.1, RdE K z.2)) σ H Q
  | [], ι, H, S, S', ps, Q, cf, e, k => by
    cases e
    exact k [] ι H (.refl _ _) cf.wd .nil
  | (a, b) :: r, ι, H, S, S', ps, Q, cf, e, k => by
    obtain ⟨x, S1, e1, e2⟩ := bind_ok e
    obtain ⟨y, S2, e3, e4⟩ := bind_ok e2
    split at e4
    · rename_i x y
      split at e4
      · rename_i ky hky
        obtain ⟨qs, S3, e5, e6⟩ := bind_ok e4
        cases e6
        refine RdE.run cf e1 fun v ι1 H1 st1 cf1 r1 => RdE.run cf1 e3 fun w ι2 H2 st2 cf2 r2 => ?_
        refine pairs_rd r ι2 H2 S2 S' qs _ cf2 e5 fun ws ι' H' st wd rs => ?_
        cases r1 with
        | p r1 =>
          cases r1.key hky
          cases r2 with
          | p r2 => exact k ((ky, w) :: ws) ι' H' ((st1.trans st2).trans st) wd (.cons (r2.mono st) rs)
      · cases e4
    · cases e4
structure PPsR (X : Cx) (pos : Pos) (keys : List (Option Expr)) (values : List Expr) (l : List (CE × CE)) : Prop where
  run : PPs X pos keys values (l.map fun z => (RdE X.K z.1, RdE X.K z.2))
theorem rpp_nil {X : Cx} {pos : Pos} : PPsR X pos [] [] [] := ⟨pps_nil⟩
theorem rpp_cons {X : Cx} {pos : Pos} {k v : Expr} {ks : List (Option Expr)} {vs : List Expr} {ck cv : CE} {l : List (CE × CE)} (hk : PE X k (RdE X.K ck)) (hv : PE X v (RdE X.K cv)) (hr : PPsR X pos ks vs l) : PPsR X pos (some k :: ks) (v :: vs) ((ck, cv) :: l) := ⟨pps_cons hk hv hr.run⟩
theorem rd_disp {X : Cx} {pos : Pos} {keys : List (Option Expr)} {values : List Expr} {l : List (CE × CE)} (h : PPsR X pos keys values l) (hall : keys.all (·.isSome) = true := by rfl) (hl : keys.length = values.length := by rfl) (h0 : keys ≠ [] := by intro z; cases z)
    (h15 : keys.length ≤ 15 := by decide) : PE X (.Dict keys values pos) (RdD X.K (cDisp l)) := (pe_disp h.run hall hl h0 h15).weak fun σ H Q ⟨ι, ρ, S, cf, d, S', e, k⟩ => by
  intro p hp
  obtain ⟨ps, S1, e1, e2⟩ := bind_ok e
  split at e2
  · rename_i hlen
    cases e2
    have cf1 : Cf X.K (ι.hide p) (upd H p (.dK [])) σ ρ S := ⟨cf.wd.hidden hp _, cf.len, fun i d hd => by
      obtain ⟨v, hv, r⟩ := cf.sv i d hd
      exact ⟨v, hv, r.monoH (StepH.hide cf.wd hp)⟩⟩
    refine pairs_rd l _ _ S S' ps _ cf1 e1 fun ws ι' H' st wd rs => ?_
    obtain ⟨ι2, rfl⟩ := st.isHide
    have hda := cf1.wd.hd p List.mem_cons_self
    have hd2 := wd.hd p List.mem_cons_self
    refine ⟨st.keep p _ upd_same hda.2, ws, rfl, by rw [rs.length]; exact hlen, ?_⟩
    have st0 : Step ι H ι2 H' := by
      have s1 := Step.new1 (o := .dK []) cf.wd hp
      exact s1.trans st.unhide
    refine k p _ ι2 _ (st0.made hp) wd.made hp (fun z => ?_) upd_same ((RKs.merge rs .nil).monoH StepH.made)
    rcases z with z | z
    · exact hd2.2 z
    · rw [st0.hid] at z
      exact (cf.wd.hd p z).1 hp
  · cases e2
/-! ### d.get(k), d.get(k, x) -/
def cGet1 (cd ck : CE) : CE := fun ρ S => (cd ρ S).bind fun x S1 => (dicOk x S1).bind fun _ S1 => (ck ρ S1).bind fun y S2 => gGet x [y] S2
where dicOk (x : D) (S : Sto) : R Unit := match dicL x S with
  | some _ => .ok () S
  | none => .no
def cGet2 (cd ck cx : CE) : CE := fun ρ S => (cd ρ S).bind fun x S1 => (cGet1.dicOk x S1).bind fun _ S1 => (ck ρ S1).bind fun y S2 => (cx ρ S2).bind fun z S3 => gGet x [y, z] S3
theorem dicOk_ok {x : D} {S S' : Sto} {u : Unit} (h : cGet1.dicOk x S = .ok u S') : S' = S ∧ ∃ kvs, dicL x S = some kvs := by
  unfold cGet1.dicOk at h
  split at h
  · cases h; exact ⟨rfl, _, by assumption⟩
  · cases h
section
variable {X : Cx} {o e f : Expr} {co ca cb : CE} {apos cpos : Pos}
theorem re_get1 (hu : X.A.units + 65 < cLine) (ho : PE X o (RdE X.K co)) (he : PE X e (RdE X.K ca)) (m : M1 X o "get" apos e cpos := by exact ⟨rfl, rfl, rfl, rfl⟩) : PE X (.Call (.Attribute o "get" apos) [e] [] cpos) (RdE X.K (cGet1 co ca)) := (pe_dget1 (by omega) ho he m).weak fun σ H Q ⟨ι, ρ, S, cf, d, S', e, k⟩ => by
  obtain ⟨x, S1, e1, e2⟩ := bind_ok e
  obtain ⟨_, _, e3, e4⟩ := bind_ok e2
  obtain ⟨rfl, kvs0, hk0⟩ := dicOk_ok e3
  obtain ⟨y, S2, e5, e6⟩ := bind_ok e4
  refine RdE.run cf e1 fun v ι1 H1 st1 cf1 r1 => ?_
  obtain ⟨a, us, rfl, h1, q1⟩ := cf1.wd.dct r1 hk0
  refine ⟨a, rfl, .inl ⟨us, h1⟩, RdE.run cf1 e5 fun w ι2 H2 st2 cf2 r2 => ?_⟩
  unfold gGet at e6
  split at e6
  · rename_i kvs y hk hy
    cases hy
    split at e6
    · rename_i ky hky
      cases e6
      obtain ⟨a', us', e', h2, q2⟩ := cf2.wd.dct (r1.mono st2) hk
      cases e'
      cases r2 with
      | p r2 =>
        cases r2.key hky
        refine ⟨_, dgK h2, ?_⟩
        have ⟨l1, l2⟩ := q2.look ky
        cases hl : lookK kvs ky with
        | none =>
          rw [l2 hl]
          rw [hl] at k
          exact k _ ι2 H2 (st1.trans st2) cf2.wd (.p .non)
        | some z =>
          obtain ⟨v, hv, rv⟩ := l1 z hl
          rw [hv]
          rw [hl] at k
          exact k _ ι2 H2 (st1.trans st2) cf2.wd (.p rv)
    · cases e6
  · rename_i h; cases h
  · cases e6
theorem re_get2 (hu : X.A.units + 65 < cLine) (ho : PE X o (RdE X.K co)) (he : PE X e (RdE X.K ca)) (hf : PE X f (RdE X.K cb)) (m : M2 X o "get" apos e f cpos := by exact ⟨rfl, rfl, rfl, rfl⟩) : PE X (.Call (.Attribute o "get" apos) [e, f] [] cpos) (RdE X.K (cGet2 co ca cb)) := (pe_dget2 (by omega) ho he hf m).weak fun σ H Q ⟨ι, ρ, S, cf, d, S', e, k⟩ => by
  obtain ⟨x, S1, e1, e2⟩ := bind_ok e
  obtain ⟨_, _, e3, e4⟩ := bind_ok e2
  obtain ⟨rfl, kvs0, hk0⟩ := dicOk_ok e3
  obtain ⟨y, S2, e5, e6⟩ := bind_ok e4
  obtain ⟨z, S3, e7, e8⟩ := bind_ok e6
  refine RdE.run cf e1 fun v ι1 H1 st1 cf1 r1 => ?_
  obtain ⟨a, us, rfl, h1, q1⟩ := cf1.wd.dct r1 hk0
  refine ⟨a, rfl, .inl ⟨us, h1⟩, RdE.run cf1 e5 fun w ι2 H2 st2 cf2 r2 => RdE.run cf2 e7 fun u ι3 H3 st3 cf3 r3 => ?_⟩
  unfold gGet at e8
  split at e8
  · rename_i h; cases h
  · rename_i kvs y z hk hy
    cases hy
    split at e8
    · rename_i ky hky
      cases e8
      obtain ⟨a', us', e', h2, q2⟩ := cf3.wd.dct (r1.mono (st2.trans st3)) hk
      cases e'
      cases r2 with
      | p r2 =>
        cases r2.key hky
        cases r3 with
        | p r3 =>
        refine ⟨_, dgK h2, ?_⟩
        have ⟨l1, l2⟩ := q2.look ky
        cases hl : lookK kvs ky with
        | none =>
          rw [l2 hl]
          rw [hl] at k
          exact k _ ι3 H3 ((st1.trans st2).trans st3) cf3.wd (.p r3)
        | some z =>
          obtain ⟨v, hv, rv⟩ := l1 z hl
          rw [hv]
          rw [hl] at k
          exact k _ ι3 H3 ((st1.trans st2).trans st3) cf3.wd (.p rv)
    · cases e8
  · cases e8
end
/-! ### d.update(e) -/
theorem mt_update {X : Cx} : MtM X "dict.update" (fun x vs H Q => ∃ d o kvs more, x = .ref d ∧ vs = [.ref o] ∧ H d = some (.dK kvs) ∧ Rd H o (.dK more) ∧ d ≠ o ∧ kvs.length + more.length ≤ sizeLine ∧ Q .non (upd H d (.dK (mergeK kvs more)))) := by
  intro pins s σ H x vs v us Q I rx rv h
  obtain ⟨d, o, kvs, more, rfl, rfl, hd, ho, hne, hz, q⟩ := h
  cases rx
  obtain ⟨u, rfl, ru⟩ := Vals.one rv
  cases ru
  obtain ⟨z1, lo1, ws1, rel1, dd1⟩ := dk_of I.hok hd
  obtain ⟨z2, lo2, ws2, rel2, dd2⟩ := dk_rd I.hok ho
  refine call_meetsIn PySem.F.slot_dict_update dd1.typeIs PySem.F.entry_dict_update (PySem.F.args_dict_update_2 _ _) (meets_dict_update (mixKind X.prog X.w) d o hne lo2)
    ⟨ws1, ws2, dd1, dd2, by rw [← rel1.length, ← rel2.length]; exact hz, fun h' dd' dd2' hs => ⟨.non, _, ?_, rfl, q⟩⟩
  have he : ∃ q, h'.get? d = some q := let ⟨q, _, _, hq, _⟩ := dd'; ⟨q, hq⟩
  have hl := length_mergeK more kvs
  exact d_write (t' := s.toks) I (by rw [hd]; exact True.intro) hs he (dk_new (by omega) lo1 (rel2.merge rel1) dd')
def unlike (y : D) (n : Nat) : Bool := match y with
  | .ref m => decide (m ≠ n)
  | _ => true
def gUpdate : D → List D → Sto → R D := fun x ds S => match x, ds with
  | .ref n, [y] => match S[n]? with
    | some (.dic kvs) => match dicL y S with
      | some more => if kvs.length + more.length ≤ sizeLine ∧ unlike y n = true then .ok (.p .non) (S.set n (.dic (mergeP kvs more))) else .no
      | none => .no
    | _ => .no
  | _, _ => .no
theorem w_update {X : Cx} : WaysM X "dict.update" gUpdate := fun x ds S d S' e => ⟨_, mt_update, fun ι H v vs d S' Q wd r1 r2 e k => by
  unfold gUpdate at e
  split at e
  · rename_i n y
    split at e
    · rename_i kvs hk
      split at e
      · rename_i more hm
        split at e
        · rename_i hc
          cases e
          obtain ⟨a, us, rfl, hix, h1, q⟩ := wd.dict r1 hk
          have hmem := List.mem_of_getElem? hix
          obtain ⟨w, rfl, ry⟩ := r2.one
          obtain ⟨b, ws, rfl, h2, q2⟩ := wd.dct ry hm
          refine ⟨a, b, us, ws, rfl, rfl, h1, h2, fun e => ?_, by rw [q.length, q2.length]; exact hc.1, k _ ι _ (Step.write hmem) (wd.write hix (.dic upd_same ((q2.merge q).mono (Step.write hmem)))) (.p .non)⟩
          subst e
          cases ry with
          | p ry =>
            cases ry with
            | dic h hn _ => exact hn (.inl hmem)
            | _ => cases hm
          | @ref m o e2 h3 =>
            have hc2 := hc.2
            simp only [unlike, decide_eq_true_eq] at hc2
            have hz := wd.ob m _ (dicL_ref hm)
            rw [e2] at hz
            cases hz with
            | dic h4 _ =>
              have := h3 _ rfl
              cases this
              exact hc2 (wd.nd _ _ _ e2 hix)
        · cases e
      · cases e
    · cases e
  · cases e⟩
end Cw
set_option Elab.async false
set_option linter.all false
set_option maxRecDepth 100000
set_option maxHeartbeats 4000000
/-! Cw13: defs that call one another, the law's end. -/
namespace Cw
open PySem PySem.Spec PyProof.Rows L2

abbrev Run := Nat → List D → Sto → R D
/-- a def: its name, its parameters, its names by slot, what its body does -/
structure Fd where
  name : Str
  ps : List Str
  N : List Str
  B : Run → CS
def startE (n : Nat) (ds : List D) : Ev := ds.map some ++ List.replicate (n - ds.length) none
/-- what is told by a call: what was made within it is gone, but what is told -/
def tellD (n : Nat) (d : D) (S : Sto) : R D := match d with
  | .p x => .ok (.p x) (S.take n)
  | .ref m => if m < n then .ok (.ref m) (S.take n) else match S[m]? with
    | some (.lst xs) => .ok (.ref n) (S.take n ++ [.lst xs])
    | some (.dic xs) => .ok (.ref n) (S.take n ++ [.dic xs])
    | _ => .no
def leave (n : Nat) (r : R Fl) : R D := r.bind fun f S => match f with
  | .nx _ => .ok (.p .non) (S.take n)
  | .rt d => tellD n d S
  | _ => .no
def runT (T : List Fd) : Nat → Run
  | 0 => fun _ _ _ => .no
  | k + 1 => fun i ds S => match T[i]? with
    | some fd => if ds.length = fd.ps.length then leave S.length (fd.B (runT T k) (startE fd.N.length ds) S) else .no
    | none => .no
section
variable {K : PySem.W.Frag} {ι ι' : Lk} {H H' : Hp} {S S' : Sto}
def Lk.cut (ι : Lk) (n : Nat) : Lk := ⟨ι.ix.take n, ι.hid⟩
theorem cut_has {n : Nat} {a : Addr} (h : (ι.cut n).has a) : ι.has a := h.elim (fun q => .inl (List.mem_of_mem_take q)) .inr
theorem Step.cut (st : Step ι H ι' H') (n : Nat) (hn : ι.ix.length = n) : Step ι H (ι'.cut n) H' := by
  refine ⟨st.hid, ?_, fun m o h => ?_, fun a ha => st.new a (List.mem_of_mem_take ha), st.keep, st.there⟩
  · have := st.len
    show _ ≤ (ι'.ix.take n).length
    rw [List.length_take]; omega
  · have hm : m < n := by
      rcases Nat.lt_or_ge m n with q | q
      · exact q
      · rw [List.getElem?_eq_none (by omega)] at h; cases h
    have e : (ι'.cut n).ix[m]? = ι'.ix[m]? := by
      show (ι'.ix.take n)[m]? = _
      rw [List.getElem?_take_of_lt hm]
    rw [e]
    exact st.old m o h
theorem Wd.cut (wd : Wd K ι H S) (n : Nat) : Wd K (ι.cut n) H (S.take n) := by
  have at_ : ∀ {m : Nat} {o : Option Addr}, (ι.cut n).ix[m]? = some o → m < n ∧ ι.ix[m]? = some o := fun {m o} h => by
    have h : (ι.ix.take n)[m]? = some o := h
    rcases Nat.lt_or_ge m n with q | q
    · rw [List.getElem?_take_of_lt q] at h; exact ⟨q, h⟩
    · rw [List.getElem?_eq_none (by rw [List.length_take]; omega)] at h; cases h
  refine ⟨?_, fun i j a hi hj => wd.nd i j a (at_ hi).2 (at_ hj).2, fun i o h => ?_, fun a ha => ⟨(wd.hd a ha).1, fun q => (wd.hd a ha).2 (List.mem_of_mem_take q)⟩⟩
  · show (ι.ix.take n).length = _
    rw [List.length_take, List.length_take, wd.len]
  · rcases Nat.lt_or_ge i n with q | q
    · rw [List.getElem?_take_of_lt q] at h
      have e : (ι.cut n).ix[i]? = ι.ix[i]? := by
        show (ι.ix.take n)[i]? = _
        rw [List.getElem?_take_of_lt q]
      rw [e]
      exact (wd.ob i o h).has fun _ => cut_has
    · rw [List.getElem?_eq_none (by rw [List.length_take]; omega)] at h; cases h
theorem tell_ok {n : Nat} {d d' : D} {S2 : Sto} {v : V} (st : Step ι H ι' H') (hn : ι.ix.length = n) (wd : Wd K ι' H' S') (r : RD K ι' H' v d) (e : tellD n d S' = .ok d' S2) :
    ∃ κ, Step ι H κ H' ∧ Wd K κ H' S2 ∧ RD K κ H' v d' := by
  unfold tellD at e
  split at e
  · cases e
    cases r with
    | p r => exact ⟨ι'.cut n, st.cut n hn, wd.cut n, .p (r.has fun _ => cut_has)⟩
  · rename_i m
    split at e
    · rename_i hm
      cases e
      cases r with
      | ref h1 h2 => exact ⟨ι'.cut n, st.cut n hn, wd.cut n, .ref (by show (ι'.ix.take n)[m]? = _; rw [List.getElem?_take_of_lt hm]; exact h1) h2⟩
    · rename_i hm
      have hl := st.len
      have key : ∀ (ob : Ob), S'[m]? = some ob → ob ≠ .gone → S2 = S'.take n ++ [ob] → d' = .ref n → ∃ κ, Step ι H κ H' ∧ Wd K κ H' S2 ∧ RD K κ H' v d' := fun ob ho hng e2 e3 => by
        subst e2 e3
        have q := wd.ob m ob ho
        cases r with
        | @ref _ o h1 h2 =>
          rw [h1] at q
          obtain ⟨a, rfl⟩ : ∃ a, o = some a := by
            cases q with
            | lst _ _ => exact ⟨_, rfl⟩
            | dic _ _ => exact ⟨_, rfl⟩
            | gone => exact absurd rfl hng
          have hlen : (ι'.ix.take n).length = n := by rw [List.length_take]; omega
          have hna : some a ∉ ι'.ix.take n := fun z => by
            obtain ⟨j, hj, ej⟩ := List.mem_iff_getElem.mp z
            have hjn : j < n := by omega
            have : ι'.ix[j]? = some (some a) := by
              rw [List.getElem_take] at ej
              rw [List.getElem?_eq_getElem (by omega), ej]
            have := wd.nd j m a this h1
            omega
          have wc := wd.cut n
          refine ⟨(ι'.cut n).add a, ?_, ?_, .ref (n := n) (o := some a) ?_ h2⟩
          · have s1 := st.cut n hn
            refine ⟨s1.hid, ?_, fun i o h => (s1.old i o h).elim (fun q => .inl (ix_old q)) fun q => .inr (ix_old q), fun b hb => ?_, s1.keep, s1.there⟩
            · show _ ≤ (ι'.ix.take n ++ [some a]).length
              rw [List.length_append, hlen]; omega
            · rcases List.mem_append.mp hb with q | q
              · exact s1.new b q
              · have : b = a := by simpa using q
                subst this
                exact st.new b (List.mem_of_getElem? h1)
          · have hadd : ∀ b, ((ι'.cut n).add a).has b → ι'.has b := fun b hb => hb.elim (fun q => (List.mem_append.mp q).elim (fun z => .inl (List.mem_of_mem_take z)) fun z => .inl (by
              have : b = a := by simpa using z
              subst this
              exact List.mem_of_getElem? h1)) .inr
            refine ⟨?_, fun i j b hi hj => ?_, fun i o h => ?_, fun b hb => ⟨(wd.hd b hb).1, fun q => ?_⟩⟩
            · show (ι'.ix.take n ++ [some a]).length = _
              rw [List.length_append, List.length_append, hlen, List.length_take]
              have := wd.len
              show n + 1 = _ + 1
              omega
            · rcases ix_new hi with q | ⟨q, e⟩ <;> rcases ix_new hj with z | ⟨z, e'⟩
              · exact wc.nd i j b q z
              · cases e'; exact (hna (List.mem_of_getElem? q)).elim
              · cases e; exact (hna (List.mem_of_getElem? z)).elim
              · omega
            · have hlS : (S'.take n).length = n := by
                have := wd.len
                rw [List.length_take]; omega
              rcases Nat.lt_or_ge i n with q0 | q0
              · rw [List.getElem?_append_left (by omega)] at h
                have w := wc.ob i o h
                have e : ((ι'.cut n).add a).ix[i]? = (ι'.cut n).ix[i]? := by
                  show (ι'.ix.take n ++ [some a])[i]? = _
                  rw [List.getElem?_append_left (by omega)]; rfl
                rw [e]
                rw [List.getElem?_take_of_lt q0] at h
                have w2 := wd.ob i o h
                have e3 : (ι'.cut n).ix[i]? = ι'.ix[i]? := by
                  show (ι'.ix.take n)[i]? = _
                  rw [List.getElem?_take_of_lt q0]
                rw [e3]
                exact w2.has hadd
              · rw [List.getElem?_append_right (by omega)] at h
                have : i - (S'.take n).length = 0 := by
                  rcases Nat.eq_zero_or_pos (i - (S'.take n).length) with z | z
                  · exact z
                  · rw [List.getElem?_eq_none (by rw [List.length_singleton]; omega)] at h; cases h
                rw [this] at h
                cases h
                have hi : i = n := by omega
                have e : ((ι'.cut n).add a).ix[i]? = some (some a) := by
                  show (ι'.ix.take n ++ [some a])[i]? = _
                  rw [hi, List.getElem?_append_right (by omega), hlen, Nat.sub_self]; rfl
                rw [e]
                exact q.has hadd
            · rcases List.mem_append.mp q with z | z
              · exact (wd.hd b hb).2 (List.mem_of_mem_take z)
              · have : b = a := by simpa using z
                subst this
                exact (wd.hd b hb).2 (List.mem_of_getElem? h1)
          · show (ι'.ix.take n ++ [some a])[n]? = _
            rw [List.getElem?_append_right (by omega), hlen, Nat.sub_self]; rfl
      split at e
      · rename_i xs hx
        cases e
        exact key _ hx (by intro z; cases z) rfl rfl
      · rename_i xs hx
        cases e
        exact key _ hx (by intro z; cases z) rfl rfl
      · cases e
end
/-! ### what a def promises -/
def spT (T : List Fd) (K : PySem.W.Frag) (k i : Nat) : Sp := fun vs H Q _ => ∃ ι S ds, Wd K ι H S ∧ RDs K ι H vs ds ∧ PostE K ι H (runT T k i ds S) Q
theorem RDs.length {K : PySem.W.Frag} {ι : Lk} {H : Hp} : ∀ {vs : List V} {ds : List D}, RDs K ι H vs ds → vs.length = ds.length
  | _, _, .nil => rfl
  | _, _, .cons _ r => congrArg (· + 1) r.length
theorem RDs.get {K : PySem.W.Frag} {ι : Lk} {H : Hp} : ∀ {vs : List V} {ds : List D} {i : Nat} {x : D}, RDs K ι H vs ds → ds[i]? = some x → ∃ v, vs[i]? = some v ∧ RD K ι H v x
  | _, _, _, _, .nil, e => by simp at e
  | _, _, 0, _, .cons r _, e => by simp at e; subst e; exact ⟨_, rfl, r⟩
  | _, _, i + 1, x, .cons _ t, e => by
    obtain ⟨u, h1, h2⟩ := RDs.get (i := i) (x := x) t (by simpa using e)
    exact ⟨u, by simpa using h1, h2⟩
theorem start_cf {K : PySem.W.Frag} {ι : Lk} {H : Hp} {S : Sto} {N : List Str} {vs : List V} {ds : List D} (wd : Wd K ι H S) (r : RDs K ι H vs ds) : Cf K ι H (L2.start N vs) (startE N.length ds) S := by
  have hl := r.length
  refine ⟨wd, by simp [L2.start, startE, hl], fun i d h => ?_⟩
  unfold startE at h
  rcases Nat.lt_or_ge i ds.length with q | q
  · rw [List.getElem?_append_left (by rw [List.length_map]; exact q), List.getElem?_map] at h
    obtain ⟨x, hx, e⟩ := Option.map_eq_some_iff.mp h
    cases e
    obtain ⟨v, hv, rv⟩ := r.get hx
    refine ⟨v, ?_, rv⟩
    unfold L2.start
    rw [List.getElem?_append_left (by rw [List.length_map, hl]; exact q), List.getElem?_map, hv]; rfl
  · rw [List.getElem?_append_right (by rw [List.length_map]; exact q)] at h
    rw [List.getElem?_replicate] at h
    split at h <;> cases h
section
variable {P : Program} {w : World} {K : PySem.W.Frag} {mg : Str → Option Value} {base : Heap} {T : List Fd}
/-- a def of the table, as callers see it -/
def Callee (P : Program) (w : World) (K : PySem.W.Frag) (mg : Str → Option Value) (base : Heap) (T : List Fd) (k i : Nat) (x : Str) : Prop :=
  ∃ (f : Addr) (fd : FuncData) (ps : List Str), mg x = some (.ref f) ∧ PySem.W.keepIn K (.ref f) = true ∧ Binds K fd ps [] ∧ FnOk P w K mg base CX0 k f fd ps (spT T K k i)
def Callees (P : Program) (w : World) (K : PySem.W.Frag) (mg : Str → Option Value) (base : Heap) (T : List Fd) (k : Nat) : Prop := ∀ i fd, T[i]? = some fd → Callee P w K mg base T k i fd.name
/-- a def of the table: its place, and each level from the one ahead -/
def Entry (P : Program) (w : World) (K : PySem.W.Frag) (mg : Str → Option Value) (base : Heap) (T : List Fd) (i : Nat) (x : Str) : Prop :=
  ∃ (f : Addr) (fd : FuncData) (ps : List Str), mg x = some (.ref f) ∧ PySem.W.keepIn K (.ref f) = true ∧ Binds K fd ps [] ∧ ∀ k, Callees P w K mg base T k → FnOk P w K mg base CX0 (k + 1) f fd ps (spT T K (k + 1) i)
theorem spT_zero {i : Nat} {vs : List V} {H : Hp} {Q : VK} {E : XK} : ¬ spT T K 0 i vs H Q E := fun ⟨ι, S, ds, _, _, d, S', e, _⟩ => by cases e
theorem tab_ok (h : ∀ i fd, T[i]? = some fd → Entry P w K mg base T i fd.name) : ∀ k, Callees P w K mg base T k
  | 0 => fun i fd hi => by
    obtain ⟨f, d, ps, h1, h2, h3, _⟩ := h i fd hi
    exact ⟨f, d, ps, h1, h2, h3, fun vs H Q E q => absurd q spT_zero, fun A outer s H args us vs Q E _ _ _ _ q => absurd q spT_zero⟩
  | k + 1 => fun i fd hi => by
    obtain ⟨f, d, ps, h1, h2, h3, h4⟩ := h i fd hi
    exact ⟨f, d, ps, h1, h2, h3, h4 k (tab_ok h k)⟩
/-- where one stands in a body -/
structure Ctx (X : Cx) (T : List Fd) (k : Nat) : Prop where
  room : Room k X.A
  calm : X.calm = true
  all : Callees X.prog X.w X.K X.mg X.base T k
theorem Ctx.hu {X : Cx} {k : Nat} (C : Ctx X T k) : X.A.units + 65 < cLine := by have := C.room.un; omega
theorem Ctx.blk {X : Cx} {k : Nat} (C : Ctx X T k) (s : Shared) (H : Hp) (scope : Scope) (cenv : Env) (fp : List Addr) : Ctx (X.blk s H scope cenv fp) T k := ⟨C.room, C.calm, C.all⟩
/-- THE ENTRY of a def: its body's derivation -/
theorem entry_fn {x qual : Str} {st : Stmt} {f : Addr} {fd : FuncData} {i : Nat} {D : Fd} (hD : T[i]? = some D) (F : Fun K x qual st f fd) (S : FnScope D.N D.ps (defScope st))
    (body : ∀ (k : Nat) (cdv : Value) (A : Around) (outer : List Env) (s : Shared) (H : Hp) (E : XK), Ctx (cxOf CX0 P w K mg base D.N qual (defScope st) f cdv A outer s H E).nox T k →
      PSs (cxOf CX0 P w K mg base D.N qual (defScope st) f cdv A outer s H E).nox (defBody st) (RdS K (D.B (runT T k)))) (k : Nat) (hc : Callees P w K mg base T k) : FnOk P w K mg base CX0 (k + 1) f fd D.ps (spT T K (k + 1) i) := by
  refine F.ok S (fun vs H Q E h => ?_) fun cdv A outer s H vs Q E hr h => ?_
  · obtain ⟨ι, S0, ds, wd, r, d, S', e, _⟩ := h
    rw [r.length]
    simp only [runT, hD] at e
    split at e
    · assumption
    · cases e
  · refine ⟨_, body k cdv A outer s H E ⟨hr, rfl, hc⟩, ?_⟩
    obtain ⟨ι, S0, ds, wd, r, d, S', e, k'⟩ := h
    simp only [runT, hD] at e
    split at e
    · obtain ⟨fl, S1, e1, e2⟩ := bind_ok (show (D.B (runT T k) (startE D.N.length ds) S0).bind _ = R.ok d S' from e)
      refine ⟨ι, startE D.N.length ds, S0, start_cf wd r, fl, S1, e1, ?_⟩
      cases fl with
      | nx ρ =>
        cases e2
        intro σ' ι' H' st cf
        exact k' .non (ι'.cut S0.length) H' (st.cut _ wd.len) (cf.wd.cut _) (.p .non)
      | rt z =>
        intro v ι' H' st wd' rv
        obtain ⟨κ, s1, w1, r1⟩ := tell_ok st wd.len wd' rv e2
        exact k' v κ H' s1 w1 r1
      | bk ρ => cases e2
      | ct ρ => cases e2
    · cases e
theorem entry {x qual : Str} {st : Stmt} {f : Addr} {fd : FuncData} {i : Nat} {D : Fd} (hD : T[i]? = some D) (F : Fun K x qual st f fd) (S : FnScope D.N D.ps (defScope st)) (hm : mg D.name = some (.ref f))
    (hb : ∀ (kV doc pm : Value) (an : Option Addr) (cdv ct : Value) (us : List Value), us.length = D.ps.length → bindArgs (PySem.W.fnOf x qual (defArgs st) (defBody st) (defScope st) .none kV doc pm an cdv ct) ⟨us, []⟩ = pure (D.ps.zip us))
    (body : ∀ (k : Nat) (cdv : Value) (A : Around) (outer : List Env) (s : Shared) (H : Hp) (E : XK), Ctx (cxOf CX0 P w K mg base D.N qual (defScope st) f cdv A outer s H E).nox T k →
      PSs (cxOf CX0 P w K mg base D.N qual (defScope st) f cdv A outer s H E).nox (defBody st) (RdS K (D.B (runT T k)))) : Entry P w K mg base T i D.name :=
  ⟨f, fd, D.ps, hm, F.kp, F.binds hb, entry_fn hD F S body⟩
end
/-! ### calls -/
def cCall (run : Run) (i : Nat) (ca : CA) : CE := fun ρ S => (ca ρ S).bind fun ds S1 => run i ds S1
/-- a call that tells a new list or dict: as one that stands -/
def frz (n : Nat) (d : D) (S : Sto) : R D := match d with
  | .ref m => if m = n then match S[n]? with
      | some (.lst xs) => .ok (.p (.ro xs)) (S.take n)
      | some (.dic xs) => .ok (.p (.dic xs)) (S.take n)
      | _ => .no
    else .ok (.ref m) S
  | d => .ok d S
def cCallF (run : Run) (i : Nat) (ca : CA) : CE := fun ρ S => (ca ρ S).bind fun ds S1 => (run i ds S1).bind fun d S2 => frz S1.length d S2
section
variable {X : Cx} {T : List Fd} {k : Nat} {x : Str} {p pos : Pos} {e : Expr} {es : List Expr} {ca : CA}
theorem re_call (C : Ctx X T k) (i : Nat) {fd : Fd} (hi : T[i]? = some fd) (hx : fd.name = x) (hg : Gl X x) (ha : PA X (e :: es) (RdA X.K ca)) (hdb : (x == ("__debug__" : Str)) = false := by decide) (he : starEach (e :: es) X.env = (false, eval e X.env) :: starEach es X.env := by rfl) (hpl : (backTo pos (starEach es X.env)).any (·.1) = false := by rfl) :
    PE X (.Call (.Name x p) (e :: es) [] pos) (RdE X.K (cCall (runT T k) i ca)) := by
  obtain ⟨f, d, ps, h1, h2, h3, h4⟩ := C.all i fd hi
  rw [hx] at h1
  refine (pe_call h4 C.room hg h1 h2 h3 .nil pass0 ha hdb he hpl).weak fun σ H Q ⟨ι, ρ, S, cf, d, S', e, k'⟩ => ?_
  obtain ⟨ds, S1, e1, e2⟩ := bind_ok e
  refine RdA.run cf e1 fun vs ι1 H1 st1 cf1 r1 => ?_
  exact ⟨ι1, S1, ds, cf1.wd, by rw [List.append_nil]; exact r1, d, S', e2, fun v ι' H' st wd r => k' v ι' H' (st1.trans st) wd r⟩
theorem frz_ok {K : PySem.W.Frag} {ι ι' : Lk} {H H' : Hp} {S1 S2 S3 : Sto} {d d' : D} {v : V} (st : Step ι H ι' H') (w0 : Wd K ι H S1) (wd : Wd K ι' H' S2) (r : RD K ι' H' v d) (e : frz S1.length d S2 = .ok d' S3) : ∃ κ, Step ι H κ H' ∧ Wd K κ H' S3 ∧ RD K κ H' v d' := by
  unfold frz at e
  have ncut : ∀ {a : Addr}, ι'.ix[S1.length]? = some (some a) → ¬ (ι'.cut S1.length).has a := fun {a} h z => by
    rcases z with z | z
    · obtain ⟨j, ej⟩ := List.mem_iff_getElem?.mp z
      have ej : (ι'.ix.take S1.length)[j]? = some (some a) := ej
      have hjn : j < S1.length := by
        rcases Nat.lt_or_ge j S1.length with q | q
        · exact q
        · rw [List.getElem?_eq_none (by rw [List.length_take]; omega)] at ej; cases ej
      rw [List.getElem?_take_of_lt hjn] at ej
      have this := ej
      have := wd.nd j _ a this h
      omega
    · exact (wd.hd a z).2 (List.mem_of_getElem? h)
  split at e
  · rename_i m
    split at e
    · rename_i hm
      subst hm
      split at e
      · rename_i xs hx
        cases e
        obtain ⟨a, vs, rfl, hix, h1, q⟩ := wd.lst r hx
        exact ⟨ι'.cut S1.length, st.cut _ w0.len, wd.cut _, .p (.ro (.inl h1) (ncut hix) (q.has fun _ => cut_has))⟩
      · rename_i xs hx
        cases e
        obtain ⟨a, vs, rfl, hix, h1, q⟩ := wd.dict r hx
        exact ⟨ι'.cut S1.length, st.cut _ w0.len, wd.cut _, .p (.dic (.of h1) (ncut hix) (q.has fun _ => cut_has))⟩
      · cases e
    · cases e
      exact ⟨ι', st, wd, r⟩
  · cases e
    exact ⟨ι', st, wd, r⟩
theorem re_callF (C : Ctx X T k) (i : Nat) {fd : Fd} (hi : T[i]? = some fd) (hx : fd.name = x) (hg : Gl X x) (ha : PA X (e :: es) (RdA X.K ca)) (hdb : (x == ("__debug__" : Str)) = false := by decide) (he : starEach (e :: es) X.env = (false, eval e X.env) :: starEach es X.env := by rfl) (hpl : (backTo pos (starEach es X.env)).any (·.1) = false := by rfl) :
    PE X (.Call (.Name x p) (e :: es) [] pos) (RdE X.K (cCallF (runT T k) i ca)) := by
  obtain ⟨f, d, ps, h1, h2, h3, h4⟩ := C.all i fd hi
  rw [hx] at h1
  refine (pe_call h4 C.room hg h1 h2 h3 .nil pass0 ha hdb he hpl).weak fun σ H Q ⟨ι, ρ, S, cf, d, S', e, k'⟩ => ?_
  obtain ⟨ds, S1, e1, e2⟩ := bind_ok e
  obtain ⟨d2, S2, e3, e4⟩ := bind_ok e2
  refine RdA.run cf e1 fun vs ι1 H1 st1 cf1 r1 => ?_
  refine ⟨ι1, S1, ds, cf1.wd, by rw [List.append_nil]; exact r1, d2, S2, e3, fun v ι' H' st wd r => ?_⟩
  obtain ⟨κ, s1, w1, r1'⟩ := frz_ok st cf1.wd wd r e4
  exact k' v κ H' (st1.trans s1) w1 r1'
end
/-! ### the law's end -/
theorem law_sp {T : List Fd} {K : PySem.W.Frag} {k i : Nat} (h : ∀ ns : List Int, ns.length ≤ 63 → runT T k i [.p (.scr (ns.map .int))] [] = .ok (.p (.bl true)) []) (H : Hp) (a : Addr) (ns : List Int) (hl : ns.length ≤ 63) (hS : SqL K H a (ns.map V.int)) (Z : XK) : spT T K k i [.ref a] H (fun v _ => v = .bl true) Z := by
  have rints : ∀ (ι : Lk) (ns : List Int), RPs K ι H (ns.map V.int) (ns.map .int) := fun ι ns => by
    induction ns with
    | nil => exact .nil
    | cons n r ih => exact .cons (.int n) ih
  have hat : LstAt K ⟨[], []⟩ H a (ns.map V.int) := by
    rcases hS with h | h
    · exact .inl ⟨h, fun z => z.elim (by simp) (by simp)⟩
    · exact .inr (.inr h)
  refine ⟨⟨[], []⟩, [], [.p (.scr (ns.map .int))], ⟨rfl, fun n m a h => by simp at h, fun n o h => by simp at h, fun a h => by simp at h⟩, .cons (.p (.scr hat (rints _ ns))) .nil, _, _, h ns hl, fun v ι' H' st wd r => ?_⟩
  exact r.blD
theorem law_walk {l : PySem.W.OpenLaw} {q : Program} {loose : List Str} {XP : (Str → Option Value) → Heap → Prop} {YP : World → Heap → Prop} {d : DefRec} {K : Params → PySem.W.Frag} {T : List Fd} {i : Nat} (lv : Nat) (hlv : Room lv callerA)
    (pure : ∀ ns : List Int, ns.length ≤ 63 → runT T lv i [.p (.scr (ns.map .int))] [] = .ok (.p (.bl true)) []) (hn : l.most = some 63) (hdf : d.params.defaults = [])
    (hY : ∀ (w : World) (h : Heap), YP w h → (K w.params).In h)
    (F : ∀ (w : World) (mg : Str → Option Value) (fa : Addr) (h : Heap), (K w.params).In h → h.Ns mainGlobals mg → mg d.name = some (.ref fa) →
      ∃ fd : FuncData, (∀ (s : Shared) (u : Value), BindsTo s fd ⟨[u], []⟩ [("script", u)]) ∧ ∀ base : Heap, (K w.params).In base → base.Ns mainGlobals mg → FnOk l.prog w (K w.params) mg base CX0 lv fa fd ["script"] (spT T (K w.params) lv i)) :
    PySem.W.WalkO q loose XP YP l.row.toRowW d [] (fun f vs => PySem.call f vs) :=
  L2.walk_of (n := 63) (k := lv) (x := "script") (CX := fun _ => CX0) (sp := fun w => spT T (K w.params) lv i) hn (by decide) hdf hlv hY F (fun _ H a ns hl _ hS => law_sp pure H a ns hl hS _) fun _ _ _ _ _ z => z
end Cw
set_option Elab.async false
set_option linter.all false
set_option maxRecDepth 100000
set_option maxHeartbeats 4000000
/-! Cw14: new lists by operators, constants of the module. -/
namespace Cw
open PySem PySem.Spec PyProof.Rows L2

theorem bt_len : bootBuiltins "len" = some (.builtin "len") := by decide +kernel
theorem bt_all : bootBuiltins "all" = some (.builtin "all") := by decide +kernel
theorem bt_any : bootBuiltins "any" = some (.builtin "any") := by decide +kernel
theorem bt_max : bootBuiltins "max" = some (.builtin "max") := by decide +kernel
theorem bt_min : bootBuiltins "min" = some (.builtin "min") := by decide +kernel
theorem bt_sum : bootBuiltins "sum" = some (.builtin "sum") := by decide +kernel
theorem bt_abs : bootBuiltins "abs" = some (.builtin "abs") := by decide +kernel
theorem bt_tuple : bootBuiltins "tuple" = some (.type "tuple") := by decide +kernel
theorem bt_int : bootBuiltins "int" = some (.type "int") := by decide +kernel
theorem bt_list : bootBuiltins "list" = some (.type "list") := by decide +kernel
theorem bt_bool : bootBuiltins "bool" = some (.type "bool") := by decide +kernel
theorem bt_str : bootBuiltins "str" = some (.type "str") := by decide +kernel
theorem bt_dict : bootBuiltins "dict" = some (.type "dict") := by decide +kernel
section
variable {X : Cx} {a b e : Expr} {ca cb : CE} {pos p p2 : Pos} {x : Str}
def nCat (ca cb : CE) : CN := fun ρ S => (ca ρ S).bind fun x S1 => (cb ρ S1).bind fun y S2 => match seqL x S2, seqL y S2 with
  | some xs, some ys => if xs.length + ys.length ≤ sizeLine then .ok (xs ++ ys) S2 else .no
  | _, _ => .no
theorem rn_cat (ha : PE X a (RdE X.K ca)) (hb : PE X b (RdE X.K cb)) : PE X (.BinOp a .Add b pos) (RdN X.K (nCat ca cb)) := (pe_op op_catR ha hb).weak fun σ H Q ⟨ι, ρ, S, cf, d, S', e, k⟩ => by
  obtain ⟨x, S1, e1, e2⟩ := bind_ok e
  obtain ⟨y, S2, e3, e4⟩ := bind_ok e2
  refine RdE.run cf e1 fun v ι1 H1 st1 cf1 r1 => RdE.run cf1 e3 fun w ι2 H2 st2 cf2 r2 => ?_
  split at e4
  · rename_i xs ys h1 h2
    split at e4
    · rename_i hc
      cases e4
      obtain ⟨a, vs, rfl, g1, q1⟩ := cf2.wd.seq (r1.mono st2) h1
      obtain ⟨b, ws, rfl, g2, q2⟩ := cf2.wd.seq r2 h2
      exact ⟨a, b, vs, ws, rfl, rfl, g1, g2, by rw [q1.length, q2.length]; exact hc, PostN.intro (st1.trans st2) cf2.wd (q1.app q2) rfl k⟩
    · cases e4
  · cases e4
/-- list * int, a list that stands too -/
theorem op_repR : OpR X (binaryOp .Mult) (fun x y H Q => ∃ l k xs, x = .ref l ∧ y = .int k ∧ H l = some (.lst xs) ∧ -(2 ^ 63) ≤ k ∧ k < 2 ^ 63 ∧ xs.length * k.toNat ≤ sizeLine ∧
  ∀ p, H p = none → Q (.ref p) (upd H p (.lst (List.replicate k.toNat xs).flatten))) := op_rep
def repOk (n : Nat) (k : Int) : Bool := Nat.ble k.natAbs 9223372036854775807 && Nat.ble (n * k.toNat) sizeLine
theorem repOk_of {n : Nat} {k : Int} (h : repOk n k = true) : -(2 ^ 63) ≤ k ∧ k < 2 ^ 63 ∧ n * k.toNat ≤ sizeLine := by
  unfold repOk at h
  rw [Bool.and_eq_true, Nat.ble_eq, Nat.ble_eq] at h
  exact ⟨by omega, by omega, h.2⟩
/-- the list that is repeated is made on the way -/
def nRep (cn : CN) (cb : CE) : CN := fun ρ S => (cn ρ S).bind fun xs S1 => (cb ρ S1).bind fun y S2 => match y with
  | .p (.int k) => if repOk xs.length k then .ok (List.replicate k.toNat xs).flatten S2 else .no
  | _ => .no
theorem rn_rep {cn : CN} (ha : PE X a (RdN X.K cn)) (hb : PE X b (RdE X.K cb)) : PE X (.BinOp a .Mult b pos) (RdN X.K (nRep cn cb)) := (pe_op op_rep ha hb).weak fun σ H Q ⟨ι, ρ, S, cf, d, S', e, k⟩ => by
  obtain ⟨xs, S1, e1, e2⟩ := bind_ok e
  obtain ⟨y, S2, e3, e4⟩ := bind_ok e2
  refine ⟨ι, ρ, S, cf, xs, S1, e1, fun a vs ι1 H1 st1 wd1 h1 h2 h3 q => ?_⟩
  have cf1 := cf.step st1 wd1.unhide
  have rro : RD X.K ι1 H1 (.ref a) (.p (.ro xs)) := .p (.ro (.inl h3) h2 (q.has (hide_has ι1 a)))
  refine RdE.run cf1 e3 fun w ι2 H2 st2 cf2 r2 => ?_
  have r3 := rro.mono st2
  have hk : H2 a = some (.lst vs) := st2.keep a _ h3 fun z => h2 (.inl z)
  split at e4
  · split at e4
    · rename_i kk hc
      cases e4
      have hc := repOk_of hc
      refine ⟨a, kk, vs, rfl, r2.intD, hk, hc.1, hc.2.1, ?_, ?_⟩
      · have hl := q.length
        rw [hl]; exact hc.2.2
      · have qs : RPs X.K ι2 H2 vs xs := (q.has (hide_has ι1 a)).mono st2
        exact PostN.intro (st1.trans st2) cf2.wd (qs.rep _) rfl k
    · cases e4
  · cases e4
def nSl (c : CE) (l h : CO) : CN := fun ρ S => (c ρ S).bind fun x S1 => (l ρ S1).bind fun lo S2 => (h ρ S2).bind fun hi S3 => match seqA x S3 with
  | some xs => .ok (cutP xs lo hi) S3
  | none => .no
theorem rn_slice {lo hi : Option Expr} {cl ch : CO} (ha : PE X a (RdE X.K ca)) (hl : PO X lo (RdO X.K cl)) (hh : PO X hi (RdO X.K ch)) : PE X (.Subscript a (.Slice lo hi none p2) pos) (RdN X.K (nSl ca cl ch)) := by
  refine (pe_slice sl_list ha hl hh).weak fun σ H Q ⟨ι, ρ, S, cf, d, S', e, k⟩ => ?_
  obtain ⟨x, S1, e1, e2⟩ := bind_ok e
  obtain ⟨lo, S2, e3, e4⟩ := bind_ok e2
  obtain ⟨hi, S3, e5, e6⟩ := bind_ok e4
  refine RdE.run cf e1 fun v ι1 H1 st1 cf1 r1 => RdO.run cf1 e3 fun ι2 H2 st2 cf2 => RdO.run cf2 e5 fun ι3 H3 st3 cf3 => ?_
  have r3 := r1.mono (st2.trans st3)
  split at e6
  · rename_i xs hx
    cases e6
    obtain ⟨a, vs, rfl, h1, q1⟩ := cf3.wd.seqA r3 hx
    exact ⟨a, vs, rfl, h1, PostN.intro ((st1.trans st2).trans st3) cf3.wd (q1.cut lo hi) rfl k⟩
  · cases e6
def nList (ca : CE) : CN := fun ρ S => (ca ρ S).bind fun x S1 => match itemsA x S1 with
  | some xs => .ok xs S1
  | none => .no
theorem rn_list (hg : Gl X x) (hm : X.mg x = none) (hv : bootBuiltins x = some (.type "list")) (ha : PE X e (RdE X.K ca)) (hn : x ≠ "__name__" := by decide) (hdb : (x == ("__debug__" : Str)) = false := by decide)
    (he : starEach (e :: []) X.env = (false, eval e X.env) :: starEach [] X.env := by rfl) (hpl : (backTo pos (starEach [] X.env)).any (·.1) = false := by rfl) : PE X (.Call (.Name x p) [e] [] pos) (RdN X.K (nList ca)) :=
  (pe_callTy call_list_of hg hm hv (pa_cons ha pa_nil he) hn hdb he hpl).weak fun σ H Q ⟨ι, ρ, S, cf, d, S', e, k⟩ => by
    obtain ⟨x, S1, e1, e2⟩ := bind_ok e
    refine RdE.run cf e1 fun v ι1 H1 st1 cf1 r1 => ?_
    split at e2
    · rename_i xs hx
      cases e2
      obtain ⟨a, vs, rfl, h1, q1⟩ := cf1.wd.items r1 hx
      exact ⟨a, vs, rfl, h1, PostN.intro st1 cf1.wd q1 rfl k⟩
    · cases e2
/-! ### constants of the module -/
theorem re_gstr {z : Str} (hg : Gl X x) (h : ∃ t, X.mg x = some (.str z t)) (ho : PyData.strOk z = true := by decide +kernel) (hd : (x == ("__debug__" : Str)) = false := by decide) : PE X (.Name x pos) (RdE X.K (cP (.str z))) := by
  obtain ⟨t, h⟩ := h
  exact re_c (pe_glob (v := .str z) hg h ⟨t, rfl⟩ hd) fun _ _ => .str ho
theorem re_gint {z : Int} (hg : Gl X x) (h : ∃ t, X.mg x = some (.int z t)) (hd : (x == ("__debug__" : Str)) = false := by decide) : PE X (.Name x pos) (RdE X.K (cP (.int z))) := by
  obtain ⟨t, h⟩ := h
  exact re_c (pe_glob (v := .int z) hg h ⟨t, rfl⟩ hd) fun _ _ => .int z
end
end Cw
set_option Elab.async false
set_option linter.all false
set_option maxRecDepth 100000
set_option maxHeartbeats 4000000
/-! Cw15: equations for reckoning with what bodies do. -/
namespace Cw
open L2 PySem

@[simp] theorem xVar0 (d : D) (ρ : Ev) (S : Sto) : cVar 0 (some d :: ρ) S = .ok d S := id rfl
@[simp] theorem xVarS (i : Nat) (o : Option D) (ρ : Ev) (S : Sto) : cVar (i + 1) (o :: ρ) S = cVar i ρ S := id rfl
@[simp] theorem xP (x : P) (ρ : Ev) (S : Sto) : cP x ρ S = .ok (.p x) S := id rfl
@[simp] theorem x2 (g : D → D → Sto → R D) (a b : CE) (ρ : Ev) (S : Sto) : c2 g a b ρ S = (a ρ S).bind fun x S1 => (b ρ S1).bind fun y S2 => g x y S2 := id rfl
@[simp] theorem x1 (g : List D → Sto → R D) (a : CA) (ρ : Ev) (S : Sto) : c1 g a ρ S = (a ρ S).bind g := id rfl
@[simp] theorem xNil (ρ : Ev) (S : Sto) : cNil ρ S = .ok [] S := id rfl
@[simp] theorem xCons (a : CE) (r : CA) (ρ : Ev) (S : Sto) : cCons a r ρ S = (a ρ S).bind fun x S1 => (r ρ S1).bind fun xs S2 => .ok (x :: xs) S2 := id rfl
@[simp] theorem xbT (b : Bool) (S : Sto) : bT (.ok (.p (.bl b)) S) = .ok b S := id rfl
@[simp] theorem xT (c : CE) (ρ : Ev) (S : Sto) : cT c ρ S = bT (c ρ S) := id rfl
@[simp] theorem xAnd (t u : CT) (ρ : Ev) (S : Sto) : cAnd t u ρ S = (t ρ S).bind fun b S1 => if b then u ρ S1 else .ok false S1 := id rfl
@[simp] theorem xOr (t u : CT) (ρ : Ev) (S : Sto) : cOr t u ρ S = (t ρ S).bind fun b S1 => if b then .ok true S1 else u ρ S1 := id rfl
@[simp] theorem xNot (t : CT) (ρ : Ev) (S : Sto) : cNot t ρ S = (t ρ S).bind fun b S1 => .ok (!b) S1 := id rfl
@[simp] theorem xAndV (a b : CE) (ρ : Ev) (S : Sto) : cAndV a b ρ S = (bT (a ρ S)).bind fun k S1 => if k then b ρ S1 else .ok (.p (.bl false)) S1 := id rfl
@[simp] theorem xOrV (a b : CE) (ρ : Ev) (S : Sto) : cOrV a b ρ S = (bT (a ρ S)).bind fun k S1 => if k then .ok (.p (.bl true)) S1 else b ρ S1 := id rfl
@[simp] theorem xNotV (a : CE) (ρ : Ev) (S : Sto) : cNotV a ρ S = (bT (a ρ S)).bind fun k S1 => .ok (.p (.bl (!k))) S1 := id rfl
@[simp] theorem xIf (t : CT) (a b : CE) (ρ : Ev) (S : Sto) : cIf t a b ρ S = (t ρ S).bind fun k S1 => if k then a ρ S1 else b ρ S1 := id rfl
@[simp] theorem xTru (c : CE) (ρ : Ev) (S : Sto) : cTru c ρ S = (c ρ S).bind fun d S1 => match truD d S1 with | some b => .ok b S1 | none => .no := id rfl
@[simp] theorem xTup (c : CA) (ρ : Ev) (S : Sto) : cTup c ρ S = (c ρ S).bind fun ds S1 => match allP ds with | some xs => if xs.length ≤ sizeLine then .ok (.p (.tup xs)) S1 else .no | none => .no := id rfl
@[simp] theorem xLst (c : CA) (ρ : Ev) (S : Sto) : cLst c ρ S = (c ρ S).bind fun ds S1 => match allP ds with | some xs => if xs.length ≤ sizeLine then .ok xs S1 else .no | none => .no := id rfl
@[simp] theorem xRo (c : CN) (ρ : Ev) (S : Sto) : cRo c ρ S = (c ρ S).bind fun xs S1 => .ok (.p (.ro xs)) S1 := id rfl
@[simp] theorem xTr (c : CN) (ρ : Ev) (S : Sto) : cTr c ρ S = (c ρ S).bind fun xs S1 => .ok (.ref S1.length) (S1 ++ [.lst xs]) := id rfl
@[simp] theorem xDo (c : CD) (ρ : Ev) (S : Sto) : cDo c ρ S = (c ρ S).bind fun xs S1 => .ok (.p (.dic xs)) S1 := id rfl
@[simp] theorem xDt (c : CD) (ρ : Ev) (S : Sto) : cDt c ρ S = (c ρ S).bind fun xs S1 => .ok (.ref S1.length) (S1 ++ [.dic xs]) := id rfl
@[simp] theorem xDNew (ρ : Ev) (S : Sto) : cDNew ρ S = .ok [] S := id rfl
@[simp] theorem xSl (c : CE) (l h : CO) (ρ : Ev) (S : Sto) : cSl c l h ρ S = (c ρ S).bind fun x S1 => (l ρ S1).bind fun lo S2 => (h ρ S2).bind fun hi S3 => gSl x lo hi S3 := id rfl
@[simp] theorem xONone (ρ : Ev) (S : Sto) : cONone ρ S = .ok none S := id rfl
@[simp] theorem xOSome (c : CE) (ρ : Ev) (S : Sto) : cOSome c ρ S = (c ρ S).bind fun d S1 => match d with | .p (.int i) => .ok (some i) S1 | _ => .no := id rfl
@[simp] theorem xNeg (c : CE) (ρ : Ev) (S : Sto) : cNeg c ρ S = (c ρ S).bind fun d S1 => match d with | .p (.int i) => .ok (.p (.int (-i))) S1 | _ => .no := id rfl
@[simp] theorem xIsi (T : String) (c : CE) (ρ : Ev) (S : Sto) : cIsi T c ρ S = (c ρ S).bind fun d S1 => match (tyN d S1).bind fun t => kitB t T with | some b => .ok (.p (.bl b)) S1 | none => .no := id rfl
@[simp] theorem xCall (run : Run) (i : Nat) (ca : CA) (ρ : Ev) (S : Sto) : cCall run i ca ρ S = (ca ρ S).bind fun ds S1 => run i ds S1 := id rfl
@[simp] theorem xCallF (run : Run) (i : Nat) (ca : CA) (ρ : Ev) (S : Sto) : cCallF run i ca ρ S = (ca ρ S).bind fun ds S1 => (run i ds S1).bind fun d S2 => frz S1.length d S2 := id rfl
@[simp] theorem xM (T : String) (g : D → List D → Sto → R D) (co : CE) (ca : CA) (ρ : Ev) (S : Sto) : cM T g co ca ρ S = (co ρ S).bind fun x S1 => if isTy T x S1 then (ca ρ S1).bind fun ds S2 => g x ds S2 else .no := id rfl
@[simp] theorem xM0 (T : String) (g : D → List D → Sto → R D) (co : CE) (ρ : Ev) (S : Sto) : cM0 T g co ρ S = (co ρ S).bind fun x S1 => if isTy T x S1 then g x [] S1 else .no := id rfl
@[simp] theorem xCat (a b : CE) (ρ : Ev) (S : Sto) : nCat a b ρ S = (a ρ S).bind fun x S1 => (b ρ S1).bind fun y S2 => match seqL x S2, seqL y S2 with | some xs, some ys => if xs.length + ys.length ≤ sizeLine then .ok (xs ++ ys) S2 else .no | _, _ => .no := id rfl
@[simp] theorem xRep (a : CN) (b : CE) (ρ : Ev) (S : Sto) : nRep a b ρ S = (a ρ S).bind fun xs S1 => (b ρ S1).bind fun y S2 => match y with | .p (.int k) => if repOk xs.length k then .ok (List.replicate k.toNat xs).flatten S2 else .no | _ => .no := id rfl
@[simp] theorem xComp (it : CI) (g : CG) (t : CT) (e : CE) (vs : List Nat) (ρ : Ev) (S : Sto) : cComp it g t e vs ρ S = (it ρ S).bind fun z S1 => compL g t e z.2 z.1 z.1 [] (wipeE ρ vs) S1 := id rfl
@[simp] theorem xYes (ρ : Ev) (S : Sto) : cYes ρ S = .ok true S := id rfl
@[simp] theorem xIt (c : CE) (ρ : Ev) (S : Sto) : cIt c ρ S = (c ρ S).bind iterD := id rfl
@[simp] theorem xRng1 (c : CE) (ρ : Ev) (S : Sto) : cRng1 c ρ S = (c ρ S).bind fun d S1 => match d with | .p (.int j) => if rngOk 0 j then .ok (rangeP 0 j.toNat, none) S1 else .no | _ => .no := id rfl
@[simp] theorem xSeq (s t : CS) (ρ : Ev) (S : Sto) : sSeq s t ρ S = (s ρ S).bind fun f S1 => match f with | .nx ρ1 => t ρ1 S1 | f => .ok f S1 := id rfl
@[simp] theorem xSNil (ρ : Ev) (S : Sto) : sNil ρ S = .ok (.nx ρ) S := id rfl
@[simp] theorem xSIf (c : CT) (s t : CS) (ρ : Ev) (S : Sto) : sIf c s t ρ S = (c ρ S).bind fun b S1 => if b then s ρ S1 else t ρ S1 := id rfl
@[simp] theorem xRet (c : CE) (ρ : Ev) (S : Sto) : sRet c ρ S = (c ρ S).bind fun d S1 => .ok (.rt d) S1 := id rfl
@[simp] theorem xRetN (ρ : Ev) (S : Sto) : sRetN ρ S = .ok (.rt (.p .non)) S := id rfl
@[simp] theorem xDrop (c : CE) (ρ : Ev) (S : Sto) : sDrop c ρ S = (c ρ S).bind fun _ S1 => .ok (.nx ρ) S1 := id rfl
@[simp] theorem xAsg (c : CE) (g : CG) (ρ : Ev) (S : Sto) : sAsg c g ρ S = (c ρ S).bind fun d S1 => (g d ρ S1).bind fun ρ2 S2 => .ok (.nx ρ2) S2 := id rfl
@[simp] theorem xgN (i : Nat) (d : D) (ρ : Ev) (S : Sto) : gN i d ρ S = .ok (ρ.set i (some d)) S := id rfl
@[simp] theorem xgsNil (ρ : Ev) (S : Sto) : gsNil [] ρ S = .ok ρ S := id rfl
@[simp] theorem xgsCons (g : CG) (r : CGs) (x : P) (xs : List P) (ρ : Ev) (S : Sto) : gsCons g r (x :: xs) ρ S = (g (.p x) ρ S).bind fun ρ1 S1 => r xs ρ1 S1 := id rfl
@[simp] theorem xgTp (n : Nat) (g : CGs) (xs : List P) (ρ : Ev) (S : Sto) : gTp n g (.p (.tup xs)) ρ S = if xs.length = n then g xs ρ S else .no := id rfl
@[simp] theorem xgAt (co ci : CE) (d : D) (ρ : Ev) (S : Sto) : gAt co ci d ρ S = (co ρ S).bind fun x S1 => (ci ρ S1).bind fun y S2 => (gSet x y d S2).bind fun _ S3 => .ok ρ S3 := id rfl
@[simp] theorem xFor (it : CI) (g : CG) (b : CS) (ρ : Ev) (S : Sto) : sFor it g b ρ S = (it ρ S).bind fun z S1 => forL g b z.2 z.1 z.1 ρ S1 := id rfl
@[simp] theorem xleave_nx (n : Nat) (ρ : Ev) (S : Sto) : leave n (.ok (.nx ρ) S) = .ok (.p .non) (S.take n) := id rfl
@[simp] theorem xleave_rt (n : Nat) (d : D) (S : Sto) : leave n (.ok (.rt d) S) = tellD n d S := id rfl
@[simp] theorem xtell_p (n : Nat) (x : P) (S : Sto) : tellD n (.p x) S = .ok (.p x) (S.take n) := id rfl
@[simp] theorem xfrz_p (n : Nat) (x : P) (S : Sto) : frz n (.p x) S = .ok (.p x) S := id rfl
@[simp] theorem xIter_tup (xs : List P) (S : Sto) : iterD (.p (.tup xs)) S = .ok (xs, none) S := id rfl
@[simp] theorem xIter_ro (xs : List P) (S : Sto) : iterD (.p (.ro xs)) S = .ok (xs, none) S := id rfl
@[simp] theorem xIter_scr (xs : List P) (S : Sto) : iterD (.p (.scr xs)) S = .ok (xs, none) S := id rfl
@[simp] theorem xok_none (xs : List P) (S : Sto) : okT none xs S = true := id rfl
/-! ### operations -/
@[simp] theorem vAdd (i j : Int) (S : Sto) : gAdd (.p (.int i)) (.p (.int j)) S = .ok (.p (.int (i + j))) S := rfl
@[simp] theorem vSub (i j : Int) (S : Sto) : gSub (.p (.int i)) (.p (.int j)) S = .ok (.p (.int (i - j))) S := by simp [gSub, gInt, CYes]
@[simp] theorem vMod (i j : Int) (S : Sto) (h : 0 < j) : gMod (.p (.int i)) (.p (.int j)) S = .ok (.p (.int (i % j))) S := by simp [gMod, gInt, CPos, h]
theorem divW {i j : Int} (h : 0 < j) (h2 : j < 2 ^ 64) : CDivW i j := wide_div (b := 64) h (by omega) (by omega) (by omega)
@[simp] theorem vDiv (i j : Int) (S : Sto) (h : 0 < j) (h2 : j < 18446744073709551616) : gDiv (.p (.int i)) (.p (.int j)) S = .ok (.p (.int (i / j))) S := by simp [gDiv, gInt, divW h h2]
@[simp] theorem vMulL (i j : Int) (S : Sto) (h : -18446744073709551616 < i) (h2 : i < 18446744073709551616) : gMul (.p (.int i)) (.p (.int j)) S = .ok (.p (.int (i * j))) S := by
  have : CMulA i j := .inl (.inl ⟨by omega, by omega⟩)
  simp [gMul, gInt, this]
@[simp] theorem vMulR (i j : Int) (S : Sto) (h : -18446744073709551616 < j) (h2 : j < 18446744073709551616) : gMul (.p (.int i)) (.p (.int j)) S = .ok (.p (.int (i * j))) S := by
  have : CMulA i j := .inl (.inr ⟨by omega, by omega⟩)
  simp [gMul, gInt, this]
@[simp] theorem vPow (i j : Int) (S : Sto) (h0 : 0 ≤ j) (h1 : j ≤ 1000000) (h2 : i.natAbs < 18446744073709551616) : gPow (.p (.int i)) (.p (.int j)) S = .ok (.p (.int (i ^ j.toNat))) S := by
  have : CPow i j := ⟨h0, h1, h2⟩
  simp [gPow, gInt, this]
@[simp] theorem vLt (i j : Int) (S : Sto) : gLt (.p (.int i)) (.p (.int j)) S = .ok (.p (.bl (decide (i < j)))) S := by simp [gLt, gInt, CYes]
@[simp] theorem vLe (i j : Int) (S : Sto) : gLe (.p (.int i)) (.p (.int j)) S = .ok (.p (.bl (decide (i ≤ j)))) S := by simp [gLe, gInt, CYes]
@[simp] theorem vGt (i j : Int) (S : Sto) : gGt (.p (.int i)) (.p (.int j)) S = .ok (.p (.bl (decide (j < i)))) S := by simp [gGt, gInt, CYes]
@[simp] theorem vGe (i j : Int) (S : Sto) : gGe (.p (.int i)) (.p (.int j)) S = .ok (.p (.bl (decide (j ≤ i)))) S := by simp [gGe, gInt, CYes]
@[simp] theorem vIs (x : P) (S : Sto) : gIs false (.p x) (.p .non) S = .ok (.p (.bl (isN (.p x)))) S := rfl
@[simp] theorem vIsnt (x : P) (S : Sto) : gIs true (.p x) (.p .non) S = .ok (.p (.bl (!isN (.p x)))) S := rfl
@[simp] theorem vMax (i j : Int) (S : Sto) : gMax [.p (.int i), .p (.int j)] S = .ok (.p (.int (max i j))) S := rfl
@[simp] theorem vMin (i j : Int) (S : Sto) : gMin [.p (.int i), .p (.int j)] S = .ok (.p (.int (min i j))) S := rfl
@[simp] theorem vLenTup (xs : List P) (S : Sto) : gLen [.p (.tup xs)] S = .ok (.p (.int (xs.length : Nat))) S := rfl
@[simp] theorem vLenRo (xs : List P) (S : Sto) : gLen [.p (.ro xs)] S = .ok (.p (.int (xs.length : Nat))) S := rfl
@[simp] theorem vLenScr (xs : List P) (S : Sto) : gLen [.p (.scr xs)] S = .ok (.p (.int (xs.length : Nat))) S := rfl
@[simp] theorem vLenDic (xs : List (Key × P)) (S : Sto) : gLen [.p (.dic xs)] S = .ok (.p (.int (xs.length : Nat))) S := rfl
theorem vLenRef {n : Nat} {S : Sto} {xs : List P} (h : S[n]? = some (.lst xs)) : gLen [.ref n] S = .ok (.p (.int (xs.length : Nat))) S := by simp [gLen, itemsA, seqA, seqL, h]
@[simp] theorem vIntI (i : Int) (S : Sto) : gIntOf [.p (.int i)] S = .ok (.p (.int i)) S := rfl
@[simp] theorem vIntB (b : Bool) (S : Sto) : gIntOf [.p (.bl b)] S = .ok (.p (.int (if b then 1 else 0))) S := rfl
@[simp] theorem vTupRo (xs : List P) (S : Sto) : gTuple [.p (.ro xs)] S = .ok (.p (.tup xs)) S := rfl
@[simp] theorem vTupTup (xs : List P) (S : Sto) : gTuple [.p (.tup xs)] S = .ok (.p (.tup xs)) S := rfl
theorem vTupRef {n : Nat} {S : Sto} {xs : List P} (h : S[n]? = some (.lst xs)) : gTuple [.ref n] S = .ok (.p (.tup xs)) S := by simp [gTuple, itemsA, seqA, seqL, h]
theorem vAllRo {xs : List P} {bs : List Bool} (S : Sto) (h : blsP xs = some bs) : gAll [.p (.ro xs)] S = .ok (.p (.bl (bs.all id))) S := by simp [gAll, gBls, seqA, seqL, h]
theorem vIxT {xs : List P} {i : Int} {x : P} (S : Sto) (h0 : 0 ≤ i) (h : xs[i.toNat]? = some x) : gIx (.p (.tup xs)) (.p (.int i)) S = .ok (.p x) S := by
  have e : i = (i.toNat : Int) := by omega
  have q : atI xs i = some x := by rw [e]; exact atI_nat h
  show gIxL (some xs) i S = _
  simp [gIxL, q]
theorem vIxRo {xs : List P} {i : Int} {x : P} (S : Sto) (h0 : 0 ≤ i) (h : xs[i.toNat]? = some x) : gIx (.p (.ro xs)) (.p (.int i)) S = .ok (.p x) S := by
  have e : i = (i.toNat : Int) := by omega
  have q : atI xs i = some x := by rw [e]; exact atI_nat h
  show gIxL (some xs) i S = _
  simp [gIxL, q]
theorem vIxScr {xs : List P} {i : Int} {x : P} (S : Sto) (h0 : 0 ≤ i) (h : xs[i.toNat]? = some x) : gIx (.p (.scr xs)) (.p (.int i)) S = .ok (.p x) S := by
  have e : i = (i.toNat : Int) := by omega
  have q : atI xs i = some x := by rw [e]; exact atI_nat h
  show gIxL (some xs) i S = _
  simp [gIxL, q]
theorem vIxRef {n : Nat} {xs : List P} {i : Int} {x : P} {S : Sto} (hS : S[n]? = some (.lst xs)) (h0 : 0 ≤ i) (h : xs[i.toNat]? = some x) : gIx (.ref n) (.p (.int i)) S = .ok (.p x) S := by
  have e : i = (i.toNat : Int) := by omega
  have q : atI xs i = some x := by rw [e]; exact atI_nat h
  have h1 : dicL (.ref n) S = none := by simp [dicL, hS]
  have h2 : itemsA (.ref n) S = some xs := by simp [itemsA, seqA, seqL, hS]
  unfold gIx
  rw [h1]
  show gIxL (itemsA (.ref n) S) i S = _
  rw [h2]
  simp [gIxL, q]
theorem ixN_nat {n : Nat} {i : Int} (h0 : 0 ≤ i) (h : i < n) : ixN n i = some i.toNat := by unfold ixN; rw [if_pos h0, if_pos h]
theorem vSetL {n : Nat} {xs : List P} {i : Int} {y : P} {S : Sto} (hS : S[n]? = some (.lst xs)) (h0 : 0 ≤ i) (h : i < xs.length) : gSet (.ref n) (.p (.int i)) (.p y) S = .ok () (S.set n (.lst (xs.set i.toNat y))) := by
  unfold gSet gSetL
  simp [hS, ixN_nat h0 h]
theorem vAppend {n : Nat} {xs : List P} {y : P} {S : Sto} (hS : S[n]? = some (.lst xs)) (h : xs.length < sizeLine) : gAppend (.ref n) [.p y] S = .ok (.p .non) (S.set n (.lst (xs ++ [y]))) := by
  simp [gAppend, onLst, hS, h]
theorem vTyL {n : Nat} {xs : List P} {S : Sto} (hS : S[n]? = some (.lst xs)) : isTy "list" (.ref n) S = true := by simp [isTy, hS]
theorem vTyD {n : Nat} {xs : List (Key × P)} {S : Sto} (hS : S[n]? = some (.dic xs)) : isTy "dict" (.ref n) S = true := by simp [isTy, hS]
theorem take_set {S : Sto} {n : Nat} {o : Ob} : (S.set n o).take S.length = S.set n o := by rw [List.take_of_length_le]; rw [List.length_set]; exact Nat.le_refl _
@[simp] theorem take_self (S : Sto) : List.take S.length S = S := List.take_length
@[simp] theorem sizeLine_val : sizeLine = 16777216 := sizeLine_eq
theorem runS {T : List Fd} {k i : Nat} {ds : List D} {S : Sto} {fd : Fd} (h : T[i]? = some fd) (hl : ds.length = fd.ps.length) : runT T (k + 1) i ds S = leave S.length (fd.B (runT T k) (startE fd.N.length ds) S) := by
  simp [runT, h, hl]
end Cw
set_option Elab.async false
set_option linter.all false
set_option maxRecDepth 100000
set_option maxHeartbeats 4000000
/-! Cw16: loops and comprehensions reckoned with; texts, dicts, things of the store. -/
namespace Cw
open L2 PySem

/-! ### loops -/
/-- one turn -/
def turnF (g : CG) (body : CS) (x : P) : CS := fun ρ S => (g (.p x) ρ S).bind fun ρ1 S1 => body ρ1 S1
theorem forL_nil (g : CG) (body : CS) (xs0 : List P) (ρ : Ev) (S : Sto) : forL g body none xs0 [] ρ S = .ok (.nx ρ) S := rfl
theorem forL_next {g : CG} {body : CS} {xs0 : List P} {x : P} {r : List P} {ρ ρ' : Ev} {S S' : Sto} (h : turnF g body x ρ S = .ok (.nx ρ') S') : forL g body none xs0 (x :: r) ρ S = forL g body none xs0 r ρ' S' := by
  obtain ⟨ρ1, S1, e1, e2⟩ := bind_ok h
  simp only [forL, okT, if_true, e1, bind_okE, e2]
theorem forL_ret {g : CG} {body : CS} {xs0 : List P} {x : P} {r : List P} {ρ : Ev} {S S' : Sto} {d : D} (h : turnF g body x ρ S = .ok (.rt d) S') : forL g body none xs0 (x :: r) ρ S = .ok (.rt d) S' := by
  obtain ⟨ρ1, S1, e1, e2⟩ := bind_ok h
  simp only [forL, okT, if_true, e1, bind_okE, e2]
theorem forL_ind {g : CG} {body : CS} {xs0 : List P} (I : Nat → Ev → Sto → Prop) : ∀ (xs : List P) (i : Nat) (ρ : Ev) (S : Sto), I i ρ S →
    (∀ j x ρ S, xs[j]? = some x → I (i + j) ρ S → ∃ ρ' S', turnF g body x ρ S = .ok (.nx ρ') S' ∧ I (i + j + 1) ρ' S') → ∃ ρ' S', forL g body none xs0 xs ρ S = .ok (.nx ρ') S' ∧ I (i + xs.length) ρ' S'
  | [], i, ρ, S, h, _ => ⟨ρ, S, rfl, h⟩
  | x :: r, i, ρ, S, h, hs => by
    obtain ⟨ρ1, S1, e1, h1⟩ := hs 0 x ρ S rfl h
    obtain ⟨ρ2, S2, e2, h2⟩ := forL_ind I r (i + 1) ρ1 S1 h1 fun j y ρ S hj hI => by
      have := hs (j + 1) y ρ S hj (by rw [← Nat.add_assoc, Nat.add_right_comm]; exact hI)
      obtain ⟨ρ', S', e, q⟩ := this
      exact ⟨ρ', S', e, by rw [Nat.add_right_comm i 1 j]; rw [← Nat.add_assoc] at q; exact q⟩
    refine ⟨ρ2, S2, by rw [forL_next e1]; exact e2, ?_⟩
    have : i + (x :: r).length = i + 1 + r.length := by rw [List.length_cons]; omega
    rw [this]; exact h2
/-- over a range -/
theorem range_at {lo : Int} {n j : Nat} {x : P} (h : (rangeP lo n)[j]? = some x) : x = .int (lo + j) ∧ j < n := by
  unfold rangeP at h
  rw [List.getElem?_map] at h
  obtain ⟨i, hi, e⟩ := Option.map_eq_some_iff.mp h
  have hj : j < n := by
    rcases Nat.lt_or_ge j n with q | q
    · exact q
    · rw [List.getElem?_eq_none (by rw [List.length_range]; exact q)] at hi; cases hi
  rw [List.getElem?_range hj] at hi
  cases hi
  exact ⟨e.symm, hj⟩
theorem range_len (lo : Int) (n : Nat) : (rangeP lo n).length = n := by unfold rangeP; rw [List.length_map, List.length_range]
theorem for_range {g : CG} {body : CS} {xs0 : List P} {lo : Int} {n : Nat} {ρ : Ev} {S : Sto} (I : Nat → Ev → Sto → Prop) (h0 : I 0 ρ S)
    (hs : ∀ (j : Nat) ρ S, j < n → I j ρ S → ∃ ρ' S', turnF g body (.int (lo + j)) ρ S = .ok (.nx ρ') S' ∧ I (j + 1) ρ' S') : ∃ ρ' S', forL g body none xs0 (rangeP lo n) ρ S = .ok (.nx ρ') S' ∧ I n ρ' S' := by
  obtain ⟨ρ', S', e, h⟩ := forL_ind (g := g) (body := body) (xs0 := xs0) I (rangeP lo n) 0 ρ S h0 fun j x ρ S hj hI => by
    obtain ⟨rfl, hn⟩ := range_at hj
    rw [Nat.zero_add] at hI ⊢
    exact hs j ρ S hn hI
  refine ⟨ρ', S', e, ?_⟩
  rw [range_len, Nat.zero_add] at h
  exact h
@[simp] theorem rngOk_nat (n : Nat) (h : n ≤ 4611686018427387903) : rngOk 0 (n : Int) = true := by
  unfold rngOk
  rw [Bool.and_eq_true, Nat.ble_eq, Nat.ble_eq]
  omega
@[simp] theorem repOk_nat (a n : Nat) (h : n ≤ 9223372036854775807) (h2 : a * n ≤ 16777216) : repOk a (n : Int) = true := by
  unfold repOk
  rw [Bool.and_eq_true, Nat.ble_eq, Nat.ble_eq, sizeLine_eq, Int.toNat_natCast]
  exact ⟨by omega, h2⟩

/-! ### comprehensions -/
theorem compL_map {g : CG} {e : CE} {xs0 : List P} {ρ : Ev} {S : Sto} (f : P → P) : ∀ (xs acc : List P), acc.length + xs.length ≤ 16777216 → (∀ x ∈ xs, (g (.p x) ρ S).bind (fun ρ1 S1 => e ρ1 S1) = .ok (.p (f x)) S) →
    compL g cYes e none xs0 xs acc ρ S = .ok (acc ++ xs.map f) S
  | [], acc, _, _ => by simp [compL]
  | x :: r, acc, hl, h => by
    have h1 := h x List.mem_cons_self
    obtain ⟨ρ1, S1, e1, e2⟩ := bind_ok h1
    have ih := compL_map (g := g) (e := e) (xs0 := xs0) (ρ := ρ) (S := S) f r (acc ++ [f x]) (by rw [List.length_append, List.length_singleton]; rw [List.length_cons] at hl; omega) fun y hy => h y (List.mem_cons_of_mem _ hy)
    rw [List.length_cons] at hl
    have hlt : acc.length < sizeLine := by rw [sizeLine_val]; omega
    simp only [compL, okT, if_true, e1, bind_okE, xYes, e2, hlt, ih, List.map_cons, List.append_assoc, List.singleton_append]
theorem compL_filter {g : CG} {t : CT} {e : CE} {xs0 : List P} {ρ : Ev} {S : Sto} (p : P → Bool) (f : P → P) : ∀ (xs acc : List P), acc.length + xs.length ≤ 16777216 →
    (∀ x ∈ xs, ∃ ρ1, g (.p x) ρ S = .ok ρ1 S ∧ t ρ1 S = .ok (p x) S ∧ (p x = true → e ρ1 S = .ok (.p (f x)) S)) → compL g t e none xs0 xs acc ρ S = .ok (acc ++ (xs.filter p).map f) S
  | [], acc, _, _ => by simp [compL]
  | x :: r, acc, hl, h => by
    obtain ⟨ρ1, e1, e2, e3⟩ := h x List.mem_cons_self
    rw [List.length_cons] at hl
    have hlt : acc.length < sizeLine := by rw [sizeLine_val]; omega
    cases hp : p x with
    | true =>
      have ih := compL_filter (g := g) (t := t) (e := e) (xs0 := xs0) (ρ := ρ) (S := S) p f r (acc ++ [f x]) (by rw [List.length_append, List.length_singleton]; omega) fun y hy => h y (List.mem_cons_of_mem _ hy)
      simp only [compL, okT, if_true, e1, bind_okE, e2, hp, e3 hp, hlt, ih, List.filter_cons, List.map_cons, List.append_assoc, List.singleton_append]
    | false =>
      have ih := compL_filter (g := g) (t := t) (e := e) (xs0 := xs0) (ρ := ρ) (S := S) p f r acc (by omega) fun y hy => h y (List.mem_cons_of_mem _ hy)
      simp only [compL, okT, if_true, e1, bind_okE, e2, hp, ih, List.filter_cons, Bool.false_eq_true, if_false]
/-- one that changes the store on its way -/
theorem compL_ind {g : CG} {e : CE} {xs0 : List P} {ρ : Ev} (I : List P → Sto → Prop) : ∀ (xs acc : List P) (S : Sto), I acc S → acc.length + xs.length ≤ 16777216 →
    (∀ x ∈ xs, ∀ acc S, I acc S → ∃ ρ1 S1 y S2, g (.p x) ρ S = .ok ρ1 S1 ∧ e ρ1 S1 = .ok (.p y) S2 ∧ I (acc ++ [y]) S2) → ∃ ys S', compL g cYes e none xs0 xs acc ρ S = .ok ys S' ∧ I ys S' ∧ ys.length = acc.length + xs.length
  | [], acc, S, h, _, _ => ⟨acc, S, by simp [compL], h, rfl⟩
  | x :: r, acc, S, h, hl, hs => by
    obtain ⟨ρ1, S1, y, S2, e1, e2, h2⟩ := hs x List.mem_cons_self acc S h
    rw [List.length_cons] at hl
    have hlt : acc.length < sizeLine := by rw [sizeLine_val]; omega
    obtain ⟨ys, S', e3, h3, h4⟩ := compL_ind (g := g) (e := e) (xs0 := xs0) (ρ := ρ) I r (acc ++ [y]) S2 h2 (by rw [List.length_append, List.length_singleton]; omega) fun z hz => hs z (List.mem_cons_of_mem _ hz)
    refine ⟨ys, S', ?_, h3, by rw [h4, List.length_append, List.length_singleton, List.length_cons]; omega⟩
    simp only [compL, okT, if_true, e1, bind_okE, xYes, e2, hlt, e3]

/-! ### a while with a measure -/
theorem whileN_next {t : CT} {b : CS} {n : Nat} {ρ ρ' : Ev} {S S1 S' : Sto} (h : t ρ S = .ok true S1) (h2 : b ρ S1 = .ok (.nx ρ') S') : whileN t b (n + 1) ρ S = whileN t b n ρ' S' := by
  simp only [whileN, h, bind_okE, if_true, h2]
theorem whileN_end {t : CT} {b : CS} {n : Nat} {ρ : Ev} {S S1 : Sto} (h : t ρ S = .ok false S1) : whileN t b (n + 1) ρ S = .ok (.nx ρ) S1 := by
  simp only [whileN, h, bind_okE, Bool.false_eq_true, if_false]
theorem while_ind {t : CT} {b : CS} (I : Nat → Ev → Sto → Prop) (J : Ev → Sto → Prop)
    (hs : ∀ m ρ S, I m ρ S → (∃ S1, t ρ S = .ok false S1 ∧ J ρ S1) ∨ ∃ m' S1 ρ' S', m = m' + 1 ∧ t ρ S = .ok true S1 ∧ b ρ S1 = .ok (.nx ρ') S' ∧ I m' ρ' S') :
    ∀ (n m : Nat) (ρ : Ev) (S : Sto), I m ρ S → m < n → ∃ ρ' S', whileN t b n ρ S = .ok (.nx ρ') S' ∧ J ρ' S'
  | 0, m, ρ, S, _, h => absurd h (Nat.not_lt_zero _)
  | n + 1, m, ρ, S, h, hl => by
    rcases hs m ρ S h with ⟨S1, e, j⟩ | ⟨m', S1, ρ', S', rfl, e1, e2, i⟩
    · exact ⟨ρ, S1, whileN_end e, j⟩
    · rw [whileN_next e1 e2]
      exact while_ind I J hs n m' ρ' S' i (by omega)

/-! ### texts -/
def mkS (l : List Nat) : Str := ⟨l.toArray⟩
@[simp] theorem mkS_app (a b : List Nat) : mkS a ++ mkS b = mkS (a ++ b) := by
  show (⟨a.toArray ++ b.toArray⟩ : Str) = ⟨(a ++ b).toArray⟩
  simp
@[simp] theorem mkS_len (a : List Nat) : (mkS a).length = a.length := by
  show a.toArray.size = a.length
  simp
theorem mkS_inj {a b : List Nat} (h : mkS a = mkS b) : a = b := by
  have : a.toArray = b.toArray := congrArg Str.cps h
  simpa using this
theorem mkS_eta (s : Str) : s = mkS s.cps.toList := by
  cases s with
  | mk c => show (⟨c⟩ : Str) = ⟨c.toList.toArray⟩; simp
@[simp] theorem mkS_cps (a : List Nat) : (mkS a).cps.toList = a := by show a.toArray.toList = a; simp
theorem sIx_none0 (n : Nat) : HT.sIx n 0 none = 0 := rfl
theorem cut_pre {α : Type} (a : List α) (k : Nat) (hk : k ≤ a.length) : (a.drop (HT.sIx a.length 0 none)).take (HT.sIx a.length a.length (some (k : Int)) - HT.sIx a.length 0 none) = a.take k := by
  rw [HT.sIx_nat, HT.sIx_none, Nat.min_eq_left hk, List.drop_zero, Nat.sub_zero]
theorem cut_post {α : Type} (a : List α) (k : Nat) (hk : k ≤ a.length) : (a.drop (HT.sIx a.length 0 (some (k : Int)))).take (HT.sIx a.length a.length none - HT.sIx a.length 0 (some (k : Int))) = a.drop k := by
  rw [HT.sIx_nat, HT.sIx_none, Nat.min_eq_left hk, List.take_of_length_le (by rw [List.length_drop]; omega)]
theorem vSlPreS {a : List Nat} {k : Int} (S : Sto) (h0 : 0 ≤ k) (h1 : k ≤ a.length) (hl : a.length ≤ 16777216) : gSl (.p (.str (mkS a))) none (some k) S = .ok (.p (.str (mkS (a.take k.toNat)))) S := by
  have e : k = (k.toNat : Int) := by omega
  unfold gSl
  simp only [mkS_len, sizeLine_val, hl, if_true]
  rw [e]
  unfold cutS
  simp only [mkS_len, mkS_cps]
  rw [cut_pre a k.toNat (by omega)]
  rfl
theorem vSlPostS {a : List Nat} {k : Int} (S : Sto) (h0 : 0 ≤ k) (h1 : k ≤ a.length) (hl : a.length ≤ 16777216) : gSl (.p (.str (mkS a))) (some k) none S = .ok (.p (.str (mkS (a.drop k.toNat)))) S := by
  have e : k = (k.toNat : Int) := by omega
  unfold gSl
  simp only [mkS_len, sizeLine_val, hl, if_true]
  rw [e]
  unfold cutS
  simp only [mkS_len, mkS_cps]
  rw [cut_post a k.toNat (by omega)]
  rfl
theorem vSlPre {d : D} {xs : List P} {k : Int} (S : Sto) (hd : ∀ ys, d ≠ .p (.tup ys)) (hd2 : ∀ s, d ≠ .p (.str s)) (h : seqA d S = some xs) (h0 : 0 ≤ k) (h1 : k ≤ xs.length) : gSl d none (some k) S = .ok (.p (.ro (xs.take k.toNat))) S := by
  have e : k = (k.toNat : Int) := by omega
  unfold gSl
  split
  · exact absurd rfl (hd _)
  · exact absurd rfl (hd2 _)
  · rw [h]
    show (R.ok (Cw.D.p (P.ro (cutP xs none (some k)))) S : R Cw.D) = _
    rw [e]
    unfold cutP
    rw [cut_pre xs k.toNat (by omega)]
    rfl
theorem vSlPost {d : D} {xs : List P} {k : Int} (S : Sto) (hd : ∀ ys, d ≠ .p (.tup ys)) (hd2 : ∀ s, d ≠ .p (.str s)) (h : seqA d S = some xs) (h0 : 0 ≤ k) (h1 : k ≤ xs.length) : gSl d (some k) none S = .ok (.p (.ro (xs.drop k.toNat))) S := by
  have e : k = (k.toNat : Int) := by omega
  unfold gSl
  split
  · exact absurd rfl (hd _)
  · exact absurd rfl (hd2 _)
  · rw [h]
    show (R.ok (Cw.D.p (P.ro (cutP xs (some k) none))) S : R Cw.D) = _
    rw [e]
    unfold cutP
    rw [cut_post xs k.toNat (by omega)]
    rfl
@[simp] theorem vAddS (a b : List Nat) (S : Sto) (h : a.length + b.length ≤ 16777216) : gAdd (.p (.str (mkS a))) (.p (.str (mkS b))) S = .ok (.p (.str (mkS (a ++ b)))) S := by
  show (if (mkS a).length + (mkS b).length ≤ sizeLine then R.ok (Cw.D.p (P.str (mkS a ++ mkS b))) S else R.no : R Cw.D) = _
  simp [h]
/-! ### in -/
theorem inList_str (z : Str) : ∀ xs : List Str, inList (.str z) (xs.map P.str) = decide (z ∈ xs)
  | [] => by simp [inList]
  | x :: r => by
    have ih := inList_str z r
    unfold inList at ih ⊢
    rw [List.map_cons, List.any_cons, ih]
    have : P.eqv (.str x) (.str z) = (x == z) := by simp [P.eqv, P.data, PyData.eqv]
    rw [this]
    by_cases e : x = z
    · subst e; simp
    · have e2 : ¬ z = x := fun q => e q.symm
      simp [e, e2]
theorem flat_strs (xs : List Str) : (xs.map P.str).all flatP = true := by
  induction xs with
  | nil => rfl
  | cons x r ih => rw [List.map_cons, List.all_cons, ih]; rfl
theorem vInStrs (neg : Bool) {z : Str} {y : D} {xs : List Str} (S : Sto) (h : itemsA y S = some (xs.map P.str)) (hd : dicL y S = none) (hs : sign1 (.str z) y = none) : gInB neg (.p (.str z)) y S = .ok (.p (.bl (if neg then !decide (z ∈ xs) else decide (z ∈ xs)))) S := by
  unfold gInB
  simp only [hd, hs, h, flat_strs, flatP, Bool.and_self, if_true, inList_str]
theorem vInRo (neg : Bool) (z : Str) (xs : List Str) (S : Sto) : gInB neg (.p (.str z)) (.p (.ro (xs.map P.str))) S = .ok (.p (.bl (if neg then !decide (z ∈ xs) else decide (z ∈ xs)))) S := vInStrs neg S rfl rfl (by unfold sign1; split <;> first | rfl | (rename_i h; cases h))
theorem vInRef (neg : Bool) {z : Str} {n : Nat} {xs : List Str} {S : Sto} (h : S[n]? = some (.lst (xs.map P.str))) : gInB neg (.p (.str z)) (.ref n) S = .ok (.p (.bl (if neg then !decide (z ∈ xs) else decide (z ∈ xs)))) S :=
  vInStrs neg S (by simp [itemsA, seqA, seqL, h]) (by simp [dicL, h]) (by unfold sign1; split <;> first | rfl | (rename_i h; cases h))
theorem vInDic (neg : Bool) {z : Str} {y : D} {kvs : List (Key × P)} (S : Sto) (h : dicL y S = some kvs) : gInB neg (.p (.str z)) y S = .ok (.p (.bl (if neg then !(lookK kvs (.inr z)).isSome else (lookK kvs (.inr z)).isSome))) S := by
  unfold gInB
  simp only [h, keyP]
theorem vIxDic {z : Str} {y : D} {kvs : List (Key × P)} {v : P} (S : Sto) (h : dicL y S = some kvs) (hv : lookK kvs (.inr z) = some v) : gIx y (.p (.str z)) S = .ok (.p v) S := by
  unfold gIx
  simp only [h, keyP, hv]
/-! ### the store -/
theorem get_lt {S : Sto} {n : Nat} {o : Ob} (h : S[n]? = some o) : n < S.length := by
  rcases Nat.lt_or_ge n S.length with q | q
  · exact q
  · rw [List.getElem?_eq_none q] at h; cases h
theorem get_app {S G : Sto} {n : Nat} {o : Ob} (h : S[n]? = some o) : (S ++ G)[n]? = some o := by rw [List.getElem?_append_left (get_lt h)]; exact h
theorem get_new {S : Sto} {o : Ob} : (S ++ [o])[S.length]? = some o := by rw [List.getElem?_append_right (Nat.le_refl _), Nat.sub_self]; rfl
theorem get_set {S : Sto} {n : Nat} {o p : Ob} (h : S[n]? = some p) : (S.set n o)[n]? = some o := List.getElem?_set_self (get_lt h)
theorem get_set_ne {S : Sto} {n m : Nat} {o p : Ob} (h : S[m]? = some p) (hn : n ≠ m) : (S.set n o)[m]? = some p := by rw [List.getElem?_set_ne hn]; exact h
theorem take_set_ge {S : Sto} {n k : Nat} {o : Ob} (h : k ≤ n) : (S.set n o).take k = S.take k := by rw [List.take_set_of_le h]
theorem take_app_le {S G : Sto} {k : Nat} (h : k ≤ S.length) : (S ++ G).take k = S.take k := List.take_append_of_le_length h
end Cw
set_option Elab.async false
set_option linter.all false
set_option maxRecDepth 100000
set_option maxHeartbeats 4000000
/-! Cw17: what a reckoning comes to, and the rules of it. -/
namespace Cw
open L2 PySem

/-- it goes well, and what comes of it is such -/
def Nd {α : Type} (r : R α) (Q : α → Sto → Prop) : Prop := ∃ a S, r = .ok a S ∧ Q a S
theorem Nd.ok {α : Type} {a : α} {S : Sto} {Q : α → Sto → Prop} (h : Q a S) : Nd (.ok a S) Q := ⟨a, S, rfl, h⟩
@[simp] theorem nd_ok {α : Type} {a : α} {S : Sto} {Q : α → Sto → Prop} : Nd (.ok a S) Q ↔ Q a S := ⟨fun ⟨_, _, e, q⟩ => by cases e; exact q, Nd.ok⟩
theorem Nd.bind {α β : Type} {r : R α} {Q : α → Sto → Prop} {k : α → Sto → R β} {Q2 : β → Sto → Prop} (h : Nd r Q) (hk : ∀ a S, Q a S → Nd (k a S) Q2) : Nd (r.bind k) Q2 := by
  obtain ⟨a, S, rfl, q⟩ := h
  exact hk a S q
theorem Nd.mono {α : Type} {r : R α} {Q Q2 : α → Sto → Prop} (h : Nd r Q) (hk : ∀ a S, Q a S → Q2 a S) : Nd r Q2 := by
  obtain ⟨a, S, rfl, q⟩ := h
  exact ⟨a, S, rfl, hk a S q⟩
theorem Nd.of_eq {α : Type} {r : R α} {a : α} {S : Sto} {Q : α → Sto → Prop} (h : r = .ok a S) (q : Q a S) : Nd r Q := ⟨a, S, h, q⟩
theorem forE {α β : Type} {g : CG} {body : CS} {xs0 : List P} {k : Fl → Sto → R β} {Q : β → Sto → Prop} (enc : α → P) (l : List α) (I : List α → Ev → Sto → Prop) : ∀ (post pre : List α) (ρ : Ev) (S : Sto), pre ++ post = l → I pre ρ S →
    (∀ pre x post ρ S, l = pre ++ x :: post → I pre ρ S → Nd (turnF g body (enc x) ρ S) fun f S' => (∃ ρ', f = .nx ρ' ∧ I (pre ++ [x]) ρ' S') ∨ ∃ d, f = .rt d ∧ Nd (k f S') Q) →
    (∀ ρ S, I l ρ S → Nd (k (.nx ρ) S) Q) → Nd ((forL g body none xs0 (post.map enc) ρ S).bind k) Q
  | [], pre, ρ, S, e, h, _, hk => by
    rw [List.append_nil] at e
    subst e
    exact hk ρ S h
  | x :: r, pre, ρ, S, e, h, hs, hk => by
    obtain ⟨f, S', e1, h1⟩ := hs pre x r ρ S e.symm h
    rcases h1 with ⟨ρ', rfl, h2⟩ | ⟨d, rfl, h2⟩
    · rw [List.map_cons, forL_next e1]
      exact forE enc l I r (pre ++ [x]) ρ' S' (by rw [List.append_assoc]; exact e) h2 hs hk
    · rw [List.map_cons, forL_ret e1]
      exact h2
theorem forE0 {α β : Type} {g : CG} {body : CS} {xs0 : List P} {k : Fl → Sto → R β} {Q : β → Sto → Prop} {ρ : Ev} {S : Sto} {enc : α → P} {l : List α} (I : List α → Ev → Sto → Prop) (h : I [] ρ S)
    (hs : ∀ pre x post ρ S, l = pre ++ x :: post → I pre ρ S → Nd (turnF g body (enc x) ρ S) fun f S' => (∃ ρ', f = .nx ρ' ∧ I (pre ++ [x]) ρ' S') ∨ ∃ d, f = .rt d ∧ Nd (k f S') Q)
    (hk : ∀ ρ S, I l ρ S → Nd (k (.nx ρ) S) Q) : Nd ((forL g body none xs0 (l.map enc) ρ S).bind k) Q := forE enc l I l [] ρ S rfl h hs hk
theorem bind_asc {α β γ : Type} (r : R α) (f : α → Sto → R β) (g : β → Sto → R γ) : (r.bind f).bind g = r.bind fun a S => (f a S).bind g := by cases r <;> rfl
theorem bind_pure {α : Type} (r : R α) : r.bind R.ok = r := by cases r <;> rfl
/-- the last statement of a block -/
theorem forE1 {α : Type} {g : CG} {body : CS} {xs0 : List P} {Q : Fl → Sto → Prop} {ρ : Ev} {S : Sto} {enc : α → P} {l : List α} (I : List α → Ev → Sto → Prop) (h : I [] ρ S)
    (hs : ∀ pre x post ρ S, l = pre ++ x :: post → I pre ρ S → Nd (turnF g body (enc x) ρ S) fun f S' => (∃ ρ', f = .nx ρ' ∧ I (pre ++ [x]) ρ' S') ∨ ∃ d, f = .rt d ∧ Q f S')
    (hk : ∀ ρ S, I l ρ S → Q (.nx ρ) S) : Nd (forL g body none xs0 (l.map enc) ρ S) Q := by
  rw [← bind_pure (forL _ _ _ _ _ _ _)]
  exact forE0 I h (fun pre x post ρ S e hI => (hs pre x post ρ S e hI).mono fun f S' q => q.imp_right fun ⟨d, e, q⟩ => ⟨d, e, .ok q⟩) fun ρ S hI => .ok (hk ρ S hI)
theorem rangeE0 {β : Type} {g : CG} {body : CS} {xs0 : List P} {k : Fl → Sto → R β} {Q : β → Sto → Prop} {ρ : Ev} {S : Sto} {n : Nat} (I : Nat → Ev → Sto → Prop) (h : I 0 ρ S)
    (hs : ∀ j ρ S, j < n → I j ρ S → Nd (turnF g body (.int j) ρ S) fun f S' => (∃ ρ', f = .nx ρ' ∧ I (j + 1) ρ' S') ∨ ∃ d, f = .rt d ∧ Nd (k f S') Q)
    (hk : ∀ ρ S, I n ρ S → Nd (k (.nx ρ) S) Q) : Nd ((forL g body none xs0 (rangeP 0 n) ρ S).bind k) Q := by
  have e : rangeP 0 n = (List.range n).map fun j : Nat => P.int (0 + (j : Int)) := rfl
  rw [e]
  refine forE0 (fun pre ρ S => I pre.length ρ S) h (fun pre x post ρ S e hI => ?_) fun ρ S hI => hk ρ S (by rw [List.length_range] at hI; exact hI)
  have hx : x = pre.length ∧ pre.length < n := by
    have e2 : (List.range n)[pre.length]? = some x := by rw [e, List.getElem?_append_right (Nat.le_refl _), Nat.sub_self]; rfl
    have hl : (List.range n).length = pre.length + (post.length + 1) := by rw [e, List.length_append, List.length_cons]
    rw [List.length_range] at hl
    rw [List.getElem?_range (by omega)] at e2
    exact ⟨(Option.some.inj e2).symm, by omega⟩
  obtain ⟨rfl, hn⟩ := hx
  rw [List.length_append, List.length_singleton]
  have := hs pre.length ρ S hn hI
  rw [Int.zero_add]
  exact this
theorem rangeE1 {g : CG} {body : CS} {xs0 : List P} {Q : Fl → Sto → Prop} {ρ : Ev} {S : Sto} {n : Nat} (I : Nat → Ev → Sto → Prop) (h : I 0 ρ S)
    (hs : ∀ j ρ S, j < n → I j ρ S → Nd (turnF g body (.int j) ρ S) fun f S' => (∃ ρ', f = .nx ρ' ∧ I (j + 1) ρ' S') ∨ ∃ d, f = .rt d ∧ Q f S')
    (hk : ∀ ρ S, I n ρ S → Q (.nx ρ) S) : Nd (forL g body none xs0 (rangeP 0 n) ρ S) Q := by
  rw [← bind_pure (forL _ _ _ _ _ _ _)]
  exact rangeE0 I h (fun j ρ S e hI => (hs j ρ S e hI).mono fun f S' q => q.imp_right fun ⟨d, e, q⟩ => ⟨d, e, .ok q⟩) fun ρ S hI => .ok (hk ρ S hI)
/-- a turn that goes on -/
theorem Nd.go {r : R Fl} {I : Ev → Sto → Prop} {J : Fl → Sto → Prop} (h : Nd r fun f S' => ∃ ρ', f = .nx ρ' ∧ I ρ' S') : Nd r fun f S' => (∃ ρ', f = .nx ρ' ∧ I ρ' S') ∨ J f S' := h.mono fun _ _ q => .inl q
/-- a comprehension that only reads -/
theorem compE {β : Type} {g : CG} {e : CE} {xs0 xs : List P} {ρ : Ev} {S : Sto} {k : List P → Sto → R β} {Q : β → Sto → Prop} (f : P → P) (hl : xs.length ≤ 16777216) (h : ∀ x ∈ xs, (g (.p x) ρ S).bind (fun ρ1 S1 => e ρ1 S1) = .ok (.p (f x)) S)
    (hk : Nd (k (xs.map f) S) Q) : Nd ((compL g cYes e none xs0 xs [] ρ S).bind k) Q := by
  rw [compL_map f xs [] (by rw [List.length_nil]; omega) h, bind_okE, List.nil_append]
  exact hk
/-- a comprehension that changes the store on its way -/
theorem compI {β : Type} {g : CG} {e : CE} {xs0 xs : List P} {ρ : Ev} {S : Sto} {k : List P → Sto → R β} {Q : β → Sto → Prop} (I : List P → Sto → Prop) (h : I [] S) (hl : xs.length ≤ 16777216)
    (hs : ∀ x ∈ xs, ∀ acc S, I acc S → Nd ((g (.p x) ρ S).bind fun ρ1 S1 => e ρ1 S1) fun d S2 => ∃ y, d = .p y ∧ I (acc ++ [y]) S2)
    (hk : ∀ ys S', I ys S' → ys.length = xs.length → Nd (k ys S') Q) : Nd ((compL g cYes e none xs0 xs [] ρ S).bind k) Q := by
  obtain ⟨ys, S', e1, h1, h2⟩ := compL_ind (g := g) (e := e) (xs0 := xs0) (ρ := ρ) I xs [] S h (by rw [List.length_nil]; omega) fun x hx acc S hI => by
    obtain ⟨d, S2, e1, y, rfl, h2⟩ := hs x hx acc S hI
    obtain ⟨ρ1, S1, e2, e3⟩ := bind_ok e1
    exact ⟨ρ1, S1, y, S2, e2, e3, h2⟩
  rw [e1, bind_okE]
  exact hk ys S' h1 (by rw [h2, List.length_nil, Nat.zero_add])
theorem leaveE {n : Nat} {r : R Fl} {Q : D → Sto → Prop} (h : Nd r fun f S => match f with | .nx _ => Q (.p .non) (S.take n) | .rt d => Nd (tellD n d S) Q | _ => False) : Nd (leave n r) Q := by
  obtain ⟨f, S, rfl, q⟩ := h
  cases f with
  | nx ρ => exact .ok q
  | rt d => exact q
  | bk _ => exact q.elim
  | ct _ => exact q.elim
theorem tell_new {S G : Sto} {xs : List P} (h : G[0]? = some (.lst xs)) : tellD S.length (.ref S.length) (S ++ G) = .ok (.ref S.length) (S ++ [.lst xs]) := by
  have h2 : (S ++ G)[S.length]? = some (.lst xs) := by rw [List.getElem?_append_right (Nat.le_refl _), Nat.sub_self]; exact h
  simp [tellD, h2]
theorem tell_at {S G : Sto} {m : Nat} {xs : List P} (hm : S.length ≤ m) (h : (S ++ G)[m]? = some (.lst xs)) : tellD S.length (.ref m) (S ++ G) = .ok (.ref S.length) (S ++ [.lst xs]) := by
  simp [tellD, h, Nat.not_lt.mpr hm]
theorem tell_atD {S G : Sto} {m : Nat} {xs : List (Key × P)} (hm : S.length ≤ m) (h : (S ++ G)[m]? = some (.dic xs)) : tellD S.length (.ref m) (S ++ G) = .ok (.ref S.length) (S ++ [.dic xs]) := by
  simp [tellD, h, Nat.not_lt.mpr hm]
theorem frz_new {S : Sto} {xs : List P} : frz S.length (.ref S.length) (S ++ [.lst xs]) = .ok (.p (.ro xs)) S := by simp [frz]
theorem frz_newD {S : Sto} {xs : List (Key × P)} : frz S.length (.ref S.length) (S ++ [.dic xs]) = .ok (.p (.dic xs)) S := by simp [frz]
theorem seqN {A B : CS} {ρ : Ev} {S : Sto} {J : Ev → Sto → Prop} {Q : Fl → Sto → Prop} (h : Nd (A ρ S) fun f S' => ∃ ρ', f = .nx ρ' ∧ J ρ' S') (hk : ∀ ρ' S', J ρ' S' → Nd (B ρ' S') Q) : Nd (sSeq A B ρ S) Q := by
  obtain ⟨f, S', e, ρ', rfl, j⟩ := h
  show Nd ((A ρ S).bind _) Q
  rw [e]
  exact hk ρ' S' j
theorem tabN (ns : List Nat) (d : Nat) (hd : d < ns.length) (S : Sto) : gIx (.p (.ro (ns.map fun x : Nat => P.int (x : Int)))) (.p (.int d)) S = .ok (.p (.int ((ns[d] : Nat) : Int))) S :=
  vIxRo S (by omega) (by rw [Int.toNat_natCast, List.getElem?_map, List.getElem?_eq_getElem hd]; rfl)
theorem vIxRoN {xs : List P} {d : Nat} {x : P} (S : Sto) (h : xs[d]? = some x) : gIx (.p (.ro xs)) (.p (.int d)) S = .ok (.p x) S := vIxRo S (by omega) (by rw [Int.toNat_natCast]; exact h)
theorem vPopAt0 {n : Nat} {x : P} {xs : List P} {S : Sto} (hS : S[n]? = some (.lst (x :: xs))) : gPopAt (.ref n) [.p (.int 0)] S = .ok (.p x) (S.set n (.lst xs)) := by
  simp [gPopAt, onLst, hS, ixN]
theorem cut_take {α : Type} (a : List α) (k : Nat) : (a.drop (HT.sIx a.length 0 none)).take (HT.sIx a.length a.length (some (k : Int)) - HT.sIx a.length 0 none) = a.take k := by
  rcases Nat.le_total k a.length with h | h
  · exact cut_pre a k h
  · rw [HT.sIx_nat, HT.sIx_none, Nat.min_eq_right h, List.drop_zero, Nat.sub_zero, List.take_length, List.take_of_length_le h]
theorem vSlTake {d : D} {xs : List P} {k : Nat} (S : Sto) (hd : ∀ ys, d ≠ .p (.tup ys)) (hd2 : ∀ s, d ≠ .p (.str s)) (h : seqA d S = some xs) : gSl d none (some (k : Int)) S = .ok (.p (.ro (xs.take k))) S := by
  unfold gSl
  split
  · exact absurd rfl (hd _)
  · exact absurd rfl (hd2 _)
  · rw [h]
    show (R.ok (Cw.D.p (P.ro (cutP xs none (some (k : Int))))) S : R Cw.D) = _
    unfold cutP
    rw [cut_take xs k]
theorem vDivB (i j : Int) (S : Sto) (h : 0 < j) (h2 : j ≤ 1000000000000000000000000000000000000000000000000000000000000) : gDiv (.p (.int i)) (.p (.int j)) S = .ok (.p (.int (i / j))) S := by
  have : CDivW i j := wide_div (b := 200) h (by omega) (by omega) (by omega)
  simp [gDiv, gInt, this]
theorem vEqI (i j : Int) (S : Sto) : gEqB false (.p (.int i)) (.p (.int j)) S = .ok (.p (.bl (decide (i = j)))) S := by
  simp [gEqB, nowP, P.dep, P.eqv, P.data, PyData.eqv]
  by_cases h : i = j <;> simp [h]
theorem eqv_str (x z : Str) : P.eqv (.str x) (.str z) = decide (x = z) := by
  have : P.eqv (.str x) (.str z) = (x == z) := by simp [P.eqv, P.data, PyData.eqv]
  rw [this]
  by_cases h : x = z
  · simp [h]
  · simp [h]
theorem vEqS (x z : Str) (S : Sto) : gEqB false (.p (.str x)) (.p (.str z)) S = .ok (.p (.bl (decide (x = z)))) S := by
  simp only [gEqB, nowP, P.dep, Nat.zero_le, and_self, if_true, eqv_str, Bool.false_eq_true, if_false]
end Cw
set_option Elab.async false
set_option linter.all false
set_option maxRecDepth 100000
set_option maxHeartbeats 4000000
/-! Cw18: all(... in ...), dicts by their keys, == of what is like. -/
namespace Cw
open L2
open PySem hiding Run

theorem blsP_map {α : Type} (f : α → Bool) : ∀ xs : List α, blsP (xs.map fun x => P.bl (f x)) = some (xs.map f)
  | [] => rfl
  | x :: r => by rw [List.map_cons, blsP, blsP_map f r]; rfl
/-- all([z in y for z in fs]) -/
theorem all_in {it : CI} {j k : Nat} {ρ : Ev} {S : Sto} {y : D} {fs : List Str} (mem : Str → Bool) (hit : it ρ S = .ok (fs.map P.str, none) S) (hj : j < ρ.length) (hk : k ≠ j) (hy : ρ[k]? = some (some y)) (hl : fs.length ≤ 16777216)
    (hin : ∀ z ∈ fs, gInB false (.p (.str z)) y S = .ok (.p (.bl (mem z))) S) :
    c1 gAll (cCons (cRo (cComp it (gN j) cYes (c2 (gInB false) (cVar j) (cVar k)) [j])) cNil) ρ S = .ok (.p (.bl (fs.all mem))) S := by
  have hc : compL (gN j) cYes (c2 (gInB false) (cVar j) (cVar k)) none (fs.map P.str) (fs.map P.str) [] (wipeE ρ [j]) S = .ok ((fs.map P.str).map fun x => match x with | .str z => P.bl (mem z) | x => x) S := by
    rw [compL_map (fun x => match x with | .str z => P.bl (mem z) | x => x) (fs.map P.str) [] (by rw [List.length_map, List.length_nil]; omega)]
    · rfl
    · intro x hx
      obtain ⟨z, hz, rfl⟩ := List.mem_map.mp hx
      have e1 : cVar j ((wipeE ρ [j]).set j (some (.p (.str z)))) S = .ok (.p (.str z)) S := by
        simp [cVar, wipeE, List.getElem?_set, hj]
      have e2 : cVar k ((wipeE ρ [j]).set j (some (.p (.str z)))) S = .ok y S := by
        simp [cVar, wipeE, List.getElem?_set_ne (Ne.symm hk), hy]
      rw [xgN, bind_okE, x2, e1, bind_okE, e2, bind_okE]
      exact hin z hz
  rw [List.map_map] at hc
  have hb : blsP (fs.map fun z => P.bl (mem z)) = some (fs.map mem) := blsP_map mem fs
  simp only [x1, xCons, xRo, xComp, hit, bind_okE, hc, xNil]
  have := vAllRo S hb
  rw [List.all_map] at this
  exact this
/-! ### dicts -/
def KeyIs (kvs : List (Key × P)) (ks : List Str) : Prop := kvs.map (·.1) = ks.map .inr
theorem lookK_is {z : Str} : ∀ {kvs : List (Key × P)} {ks : List Str}, KeyIs kvs ks → (lookK kvs (.inr z)).isSome = decide (z ∈ ks)
  | [], [], _ => by simp [lookK]
  | kv :: r, k :: ks, h => by
    unfold KeyIs at h
    rw [List.map_cons, List.map_cons, List.cons.injEq] at h
    have ih := lookK_is (z := z) (kvs := r) (ks := ks) h.2
    unfold lookK at ih ⊢
    rw [List.find?_cons]
    by_cases e : kv.1 = (.inr z : Key)
    · rw [h.1] at e
      cases e
      simp [h.1]
    · have e2 : z ≠ k := fun q => e (by rw [h.1, q])
      simp only [e, decide_false, Bool.false_eq_true]
      rw [ih]
      simp [e2]
  | [], _ :: _, h => by cases h
  | _ :: _, [], h => by cases h
theorem KeyIs.len {kvs : List (Key × P)} {ks : List Str} (h : KeyIs kvs ks) : kvs.length = ks.length := by
  have := congrArg List.length h
  rw [List.length_map, List.length_map] at this
  exact this
theorem KeyIs.put {kvs : List (Key × P)} {ks : List Str} (h : KeyIs kvs ks) {z : Str} (hz : z ∉ ks) (v : P) : KeyIs (putP kvs (.inr z) v) (ks ++ [z]) := by
  have hn : ¬ kvs.any (fun kv => decide (kv.1 = (.inr z : Key))) = true := by
    intro q
    obtain ⟨kv, hkv, e⟩ := List.any_eq_true.mp q
    have e := of_decide_eq_true e
    have : kv.1 ∈ kvs.map (·.1) := List.mem_map_of_mem hkv
    rw [h, e] at this
    obtain ⟨w, hw, e2⟩ := List.mem_map.mp this
    cases e2
    exact hz hw
  unfold putP
  rw [if_neg hn]
  unfold KeyIs
  rw [List.map_append, List.map_append, h]
  rfl
theorem KeyIs.merge {kvs : List (Key × P)} {ks : List Str} (h : KeyIs kvs ks) : ∀ {more : List (Key × P)} {ms : List Str}, KeyIs more ms → ms.Nodup → (∀ z ∈ ms, z ∉ ks) → KeyIs (mergeP kvs more) (ks ++ ms)
  | [], [], _, _, _ => by rw [List.append_nil]; exact h
  | kv :: r, m :: ms, q, nd, hd => by
    unfold KeyIs at q
    rw [List.map_cons, List.map_cons, List.cons.injEq] at q
    have nd := List.nodup_cons.mp nd
    have h2 := h.put (hd m List.mem_cons_self) kv.2
    have e : mergeP kvs (kv :: r) = mergeP (putP kvs (.inr m) kv.2) r := by
      unfold mergeP
      rw [List.foldl_cons, q.1]
    rw [e]
    have := h2.merge (more := r) (ms := ms) q.2 nd.2 fun z hz => by
      rw [List.mem_append, List.mem_singleton, not_or]
      exact ⟨hd z (List.mem_cons_of_mem _ hz), fun e => nd.1 (e ▸ hz)⟩
    rw [List.append_assoc] at this
    exact this
  | [], _ :: _, h, _, _ => by cases h
  | _ :: _, [], h, _, _ => by cases h
theorem vSetD {n : Nat} {kvs : List (Key × P)} {z : Str} {y : P} {S : Sto} (hS : S[n]? = some (.dic kvs)) (h : kvs.length < 16777216) : gSet (.ref n) (.p (.str z)) (.p y) S = .ok () (S.set n (.dic (putP kvs (.inr z) y))) := by
  unfold gSet gSetL gSetD
  simp [hS, keyP, h]
theorem vUpdate {n : Nat} {kvs more : List (Key × P)} {S : Sto} (hS : S[n]? = some (.dic kvs)) (h : kvs.length + more.length ≤ 16777216) : gUpdate (.ref n) [.p (.dic more)] S = .ok (.p .non) (S.set n (.dic (mergeP kvs more))) := by
  simp [gUpdate, hS, dicL, unlike, h]
theorem vInKeys (neg : Bool) {z : Str} {y : D} {kvs : List (Key × P)} {ks : List Str} (S : Sto) (h : dicL y S = some kvs) (hk : KeyIs kvs ks) : gInB neg (.p (.str z)) y S = .ok (.p (.bl (if neg then !decide (z ∈ ks) else decide (z ∈ ks)))) S := by
  rw [vInDic neg S h, lookK_is hk]
theorem dic_ref {n : Nat} {kvs : List (Key × P)} {S : Sto} (h : S[n]? = some (.dic kvs)) : dicL (.ref n) S = some kvs := by simp [dicL, h]
/-! ### == of what is like -/
mutual
theorem eqv_self : ∀ x : P, x.dep ≤ 64 → P.eqv x x = true
  | .non, _ => rfl
  | .bl b, _ => by simp [P.eqv, P.data, PyData.eqv]
  | .int i, _ => by simp [P.eqv, P.data, PyData.eqv]
  | .str s, _ => by simp [P.eqv, P.data, PyData.eqv]
  | .tup xs, h => by
    simp only [P.dep] at h
    have := eqvs_self xs (by omega)
    simp only [P.eqv, P.data, PyData.eqv]
    exact this
  | .ro xs, h => by
    simp only [P.dep] at h
    have := eqvs_self xs (by omega)
    simp only [P.eqv, P.data, PyData.eqv]
    exact this
  | .scr xs, h => by
    simp only [P.dep] at h
    have := eqvs_self xs (by omega)
    simp only [P.eqv, P.data, PyData.eqv]
    exact this
  | .dic _, h => by simp only [P.dep] at h; omega
theorem eqvs_self : ∀ xs : List P, P.deps xs ≤ 64 → PyData.eqvAll (P.datas xs) (P.datas xs) = true
  | [], _ => rfl
  | x :: r, h => by
    simp only [P.deps] at h
    have a := eqv_self x (by omega)
    have b := eqvs_self r (by omega)
    unfold P.eqv at a
    simp only [P.datas, PyData.eqvAll, a, b, Bool.and_self]
end
theorem vNeSelf {x : P} (h : x.dep ≤ 64) (S : Sto) : gEqB true (.p x) (.p x) S = .ok (.p (.bl false)) S := by
  simp only [gEqB, nowP, h, and_self, if_true, eqv_self x h, Bool.not_true]
theorem vEqSelf {x : P} (h : x.dep ≤ 64) (S : Sto) : gEqB false (.p x) (.p x) S = .ok (.p (.bl true)) S := by
  simp only [gEqB, nowP, h, and_self, if_true, eqv_self x h, Bool.false_eq_true, if_false]
theorem vNeB (a b : Bool) (S : Sto) : gEqB true (.p (.bl a)) (.p (.bl b)) S = .ok (.p (.bl (!decide (a = b)))) S := by
  cases a <;> cases b <;> rfl
theorem vNeNil {xs : List P} (h : P.deps xs < 64) (S : Sto) : gEqB true (.p (.ro xs)) (.p (.ro [])) S = .ok (.p (.bl (!xs.isEmpty))) S := by
  have h1 : (P.ro xs).dep ≤ 64 := by simp only [P.dep]; omega
  have h2 : (P.ro []).dep ≤ 64 := by simp only [P.dep, P.deps]; omega
  simp only [gEqB, nowP, h1, h2, and_self, if_true]
  cases xs <;> simp [P.eqv, P.data, P.datas, PyData.eqv, PyData.eqvAll]
theorem deps_le {xs : List P} {k : Nat} (h : ∀ x ∈ xs, x.dep ≤ k) : P.deps xs ≤ k := by
  induction xs with
  | nil => simp [P.deps]
  | cons x r ih =>
    have a := h x List.mem_cons_self
    have b := ih fun y hy => h y (List.mem_cons_of_mem _ hy)
    simp only [P.deps]; omega
end Cw
set_option Elab.async false
set_option linter.all false
set_option maxRecDepth 100000
set_option maxHeartbeats 4000000
/-! Cw19: a loop over a dict's keys (the dict locked meanwhile), reversed, copies of dicts, list(dict), is True. -/
namespace Cw
open PySem PySem.Spec PyProof.Rows L2

/-! ### a dict that is locked -/
section
variable {K : PySem.W.Frag} {ι ι' : Lk} {H H' : Hp} {d : Addr} {od : Obj} {kws : List (Key × V)}
theorem rd_lock (hd : H d = some (.dK kws)) {a : Addr} {w : HO} (hw : ∀ o z, w ≠ .frz o z) (h : Rd H a w) : Rd (upd H d (.frz od (.dK kws))) a w := by
  by_cases e : a = d
  · subst e
    rcases h with h | ⟨o, h⟩
    · rw [hd] at h
      cases h
      exact .inr ⟨od, upd_same⟩
    · rw [hd] at h
      cases h
  · rcases h with h | ⟨o, h⟩
    · exact .inl (by rw [upd_ne e]; exact h)
    · exact .inr ⟨o, by rw [upd_ne e]; exact h⟩
theorem rd_unlock (hd : H d = some (.frz od (.dK kws))) {a : Addr} {w : HO} (hw : ∀ o z, w ≠ .frz o z) (h : Rd H a w) : Rd (upd H d (.dK kws)) a w := by
  by_cases e : a = d
  · subst e
    rcases h with h | ⟨o, h⟩
    · rw [hd] at h
      cases h
      exact absurd rfl (hw _ _)
    · rw [hd] at h
      cases h
      exact .inl upd_same
  · rcases h with h | ⟨o, h⟩
    · exact .inl (by rw [upd_ne e]; exact h)
    · exact .inr ⟨o, by rw [upd_ne e]; exact h⟩
/-- readings go over -/
structure Over (H H' : Hp) : Prop where
  tup : ∀ {a : Addr} {vs : List V} {o : Obj}, H a = some (.frz o (.tup vs)) → H' a = some (.frz o (.tup vs))
  lst : ∀ {a : Addr} {vs : List V}, Rd H a (.lst vs) → Rd H' a (.lst vs)
  dK : ∀ {a : Addr} {vs : List (Key × V)}, Rd H a (.dK vs) → Rd H' a (.dK vs)
theorem over_lock (hd : H d = some (.dK kws)) : Over H (upd H d (.frz od (.dK kws))) := ⟨fun {a vs o} h => by
  by_cases e : a = d
  · rw [e, hd] at h; cases h
  · rw [upd_ne e]; exact h, rd_lock hd (fun _ _ z => nomatch z), rd_lock hd (fun _ _ z => nomatch z)⟩
theorem over_unlock (hd : H d = some (.frz od (.dK kws))) : Over H (upd H d (.dK kws)) := ⟨fun {a vs o} h => by
  by_cases e : a = d
  · rw [e, hd] at h; cases h
  · rw [upd_ne e]; exact h, rd_unlock hd (fun _ _ z => nomatch z), rd_unlock hd (fun _ _ z => nomatch z)⟩
theorem Over.tupAt (o : Over H H') {a : Addr} {vs : List V} (h : TupAt K ι H a vs) : TupAt K ι H' a vs := h.imp_left fun ⟨⟨ob, d, q⟩, n⟩ => ⟨⟨ob, d, o.tup q⟩, n⟩
theorem Over.lstAt (o : Over H H') {a : Addr} {vs : List V} (h : LstAt K ι H a vs) : LstAt K ι H' a vs := h.imp_left fun q => ⟨o.lst q.1, q.2⟩
mutual
theorem RP.over (o : Over H H') : ∀ {v : V} {x : P}, RP K ι H v x → RP K ι H' v x
  | _, _, .non => .non
  | _, _, .bl b => .bl b
  | _, _, .int i => .int i
  | _, _, .str s => .str s
  | _, _, .tup h r => .tup (o.tupAt h) (RPs.over o r)
  | _, _, .ro h hn r => .ro (o.lst h) hn (RPs.over o r)
  | _, _, .scr h r => .scr (o.lstAt h) (RPs.over o r)
  | _, _, .dic h hn r => .dic (o.dK h) hn (RKs.over o r)
theorem RPs.over (o : Over H H') : ∀ {v : List V} {x : List P}, RPs K ι H v x → RPs K ι H' v x
  | _, _, .nil => .nil
  | _, _, .cons a r => .cons (RP.over o a) (RPs.over o r)
theorem RKs.over (o : Over H H') : ∀ {v : List (Key × V)} {x : List (Key × P)}, RKs K ι H v x → RKs K ι H' v x
  | _, _, .nil => .nil
  | _, _, .cons a r => .cons (RP.over o a) (RKs.over o r)
end
theorem RD.over (o : Over H H') {v : V} {x : D} (r : RD K ι H v x) : RD K ι H' v x := by
  cases r with
  | p r => exact .p (r.over o)
  | ref e h => exact .ref e h
theorem Wd.over {S : Sto} {w : HO} (o : Over H (upd H d w)) (hd : ¬ ι.has d) (wd : Wd K ι H S) : Wd K ι (upd H d w) S := by
  refine ⟨wd.len, wd.nd, fun n ob h => ?_, fun a ha => ⟨?_, (wd.hd a ha).2⟩⟩
  · have q := wd.ob n ob h
    have ne : ∀ {z : Option (Option Addr)} {a : Addr}, z = ι.ix[n]? → z = some (some a) → a ≠ d := fun {z a} e1 e2 e3 => by
      subst e3
      rw [e2] at e1
      exact hd (.inl (List.mem_of_getElem? e1.symm))
    generalize hz : ι.ix[n]? = z at q
    cases q with
    | lst e r => exact .lst (by rw [upd_ne (ne hz.symm rfl)]; exact e) (r.over o)
    | dic e r => exact .dic (by rw [upd_ne (ne hz.symm rfl)]; exact e) (r.over o)
    | gone => exact .gone
  · by_cases e : a = d
    · subst e; rw [upd_same]; exact fun z => nomatch z
    · rw [upd_ne e]; exact (wd.hd a ha).1
theorem Cf.over {S : Sto} {σ : L2.St} {ρ : Ev} {w : HO} (o : Over H (upd H d w)) (hd : ¬ ι.has d) (cf : Cf K ι H σ ρ S) : Cf K ι (upd H d w) σ ρ S :=
  ⟨cf.wd.over o hd, cf.len, fun i x h => let ⟨v, h1, h2⟩ := cf.sv i x h; ⟨v, h1, h2.over o⟩⟩
/-- what was done while it was locked -/
theorem Step.locked (hd : H d = some (.dK kws)) (hn : ¬ ι.has d) (st : Step ι (upd H d (.frz od (.dK kws))) ι' H') :
    H' d = some (.frz od (.dK kws)) ∧ ¬ ι'.has d ∧ Step ι H ι' (upd H' d (.dK kws)) := by
  have h1 : H' d = some (.frz od (.dK kws)) := st.keep d _ upd_same fun q => hn (.inl q)
  have hnew : ∀ a, some a ∈ ι'.ix → some a ∈ ι.ix ∨ H a = none := fun a ha => by
    rcases st.new a ha with q | q
    · exact .inl q
    · by_cases e : a = d
      · subst e; rw [upd_same] at q; cases q
      · rw [upd_ne e] at q; exact .inr q
  refine ⟨h1, fun q => ?_, st.hid, st.len, st.old, hnew, fun a o h ha => ?_, fun a h => ?_⟩
  · rcases q with q | q
    · rcases hnew d q with z | z
      · exact hn (.inl z)
      · rw [hd] at z; cases z
    · rw [st.hid] at q; exact hn (.inr q)
  · by_cases e : a = d
    · subst e; rw [upd_same, ← h, hd]
    · rw [upd_ne e]
      exact st.keep a o (by rw [upd_ne e]; exact h) ha
  · by_cases e : a = d
    · subst e; rw [upd_same] at h; cases h
    · rw [upd_ne e] at h
      have := st.there a h
      rw [upd_ne e] at this
      exact this
end
/-! ### keys -/
def keyU : Key → P
  | .inl i => .int i
  | .inr s => .str s
def keyOk : Key → Bool
  | .inl _ => true
  | .inr s => PyData.strOk s
def keysP (kvs : List (Key × P)) : List P := kvs.map fun kv => keyU kv.1
theorem keyU_rp {K : PySem.W.Frag} {ι : Lk} {H : Hp} {k : Key} (h : keyOk k = true) : RP K ι H (kV k) (keyU k) := by
  cases k with
  | inl i => exact .int i
  | inr s => exact .str h
theorem RKs.at {K : PySem.W.Frag} {ι : Lk} {H : Hp} : ∀ {ws : List (Key × V)} {xs : List (Key × P)} {i : Nat} {k : Key} {x : P}, RKs K ι H ws xs → xs[i]? = some (k, x) → ∃ v, ws[i]? = some (k, v) ∧ RP K ι H v x
  | _, _, 0, _, _, .cons r _, e => by cases e; exact ⟨_, rfl, r⟩
  | _, _, i + 1, _, _, .cons _ t, e => by rw [List.getElem?_cons_succ] at e ⊢; exact t.at e
  | _, _, _, _, _, .nil, e => by cases e
def cKeys (i : Nat) : CI := fun ρ S => match ρ[i]? with
  | some (some (.p (.dic kvs))) => if kvs.all (fun kv => keyOk kv.1) then .ok (keysP kvs, none) S else .no
  | _ => .no
theorem go_keys {K : PySem.W.Frag} {ι : Lk} {H : Hp} {d : Addr} {o : Obj} {kws : List (Key × V)} {kvs : List (Key × P)} (h : H d = some (.frz o (.dK kws))) (hn : ¬ ι.has d) (r : RKs K ι H kws kvs) (hk : kvs.all (fun kv => keyOk kv.1) = true) :
    Go K (Itk d o kws) ι H (keysP kvs) none := fun ι1 H1 S1 st wd _ => by
  have h1 := st.keep d _ h hn
  have r1 := RKs.monoH st r
  have hl := r1.length
  refine ⟨fun i x e => ?_, h1, by unfold keysP; rw [List.length_map]; exact Nat.le_of_eq hl⟩
  unfold keysP at e
  rw [List.getElem?_map] at e
  obtain ⟨⟨k, y⟩, e1, rfl⟩ := Option.map_eq_some_iff.mp e
  obtain ⟨v, hv, _⟩ := r1.at e1
  have hi : i < kws.length := by
    rcases Nat.lt_or_ge i kws.length with q | q
    · exact q
    · rw [List.getElem?_eq_none q] at hv; cases hv
  refine ⟨⟨h1, hi⟩, fun w H' y => ?_⟩
  obtain ⟨rfl, k2, v2, e2, rfl⟩ := y
  rw [hv] at e2
  cases e2
  exact ⟨.refl _ _, wd, keyU_rp (List.all_eq_true.mp hk _ (List.mem_of_getElem? e1))⟩
section
variable {X : Cx} {tg iter : Expr} {body : List Stmt} {it : CI} {is : List Nat} {g : CG} {cb : CS} {pos : Pos}
def cRev (c : CE) : CI := fun ρ S => (c ρ S).bind fun d S1 => match d with
  | .p (.tup xs) => .ok (xs.reverse, none) S1
  | .p (.ro xs) => .ok (xs.reverse, none) S1
  | .p (.scr xs) => .ok (xs.reverse, none) S1
  | .ref m => match S1[m]? with
    | some (.lst xs) => .ok (xs.reverse, some (m, xs)) S1
    | _ => .no
  | _ => .no
theorem rev_get {α : Type} {xs : List α} {i : Nat} (hi : i < xs.length) : xs.reverse[i]? = xs[xs.length - 1 - i]? := List.getElem?_reverse hi
theorem go_revL {K : PySem.W.Frag} {ι : Lk} {H : Hp} {a : Addr} {n : Nat} {xs : List P} {tr : Option (Nat × List P)} (h : ∀ ι1 H1 S1, StepH ι H ι1 H1 → Wd K ι1 H1 S1 → okT tr xs.reverse S1 = true → ∃ vs, SqL K H1 a vs ∧ RPs K ι1 H1 vs xs) (hn : xs.length = n) : Go K (Itv K a n) ι H xs.reverse tr := fun ι1 H1 S1 st wd ok => by
  obtain ⟨vs, h1, r1⟩ := h ι1 H1 S1 st wd ok
  subst hn
  refine ⟨fun i x e => ?_, by show xs.length ≤ xs.reverse.length; rw [List.length_reverse]; exact Nat.le_refl _⟩
  have hi : i < xs.length := by
    rcases Nat.lt_or_ge i xs.length with q | q
    · exact q
    · rw [List.getElem?_eq_none (by rw [List.length_reverse]; exact q)] at e; cases e
  rw [rev_get hi] at e
  obtain ⟨v, hv, rv⟩ := r1.get e
  refine ⟨⟨hi, vs, v, h1, hv⟩, fun w H' y => ?_⟩
  obtain ⟨e1, y⟩ := y
  subst e1
  have := y vs h1
  rw [hv] at this
  cases this
  exact ⟨.refl _ _, wd, rv⟩
theorem go_revT {K : PySem.W.Frag} {ι : Lk} {H : Hp} {a : Addr} {n : Nat} {vs : List V} {xs : List P} (h : TupAt K ι H a vs) (r : RPs K ι H vs xs) (hn : xs.length = n) : Go K (RT.ItvT K a n) ι H xs.reverse none := fun ι1 H1 S1 st wd _ => by
  have h1 := (h.monoH st).sq
  have r1 := r.monoH st
  subst hn
  refine ⟨fun i x e => ?_, by show xs.length ≤ xs.reverse.length; rw [List.length_reverse]; exact Nat.le_refl _⟩
  have hi : i < xs.length := by
    rcases Nat.lt_or_ge i xs.length with q | q
    · exact q
    · rw [List.getElem?_eq_none (by rw [List.length_reverse]; exact q)] at e; cases e
  rw [rev_get hi] at e
  obtain ⟨v, hv, rv⟩ := r1.get e
  refine ⟨⟨hi, vs, v, h1, hv⟩, fun w H' y => ?_⟩
  obtain ⟨e1, y⟩ := y
  subst e1
  have := y vs h1
  rw [hv] at this
  cases this
  exact ⟨.refl _ _, wd, rv⟩
theorem ri_rev {e : Expr} {ce : CE} {p : Pos} (hg : Gl X "reversed") (hm : X.mg "reversed" = none) (h : PE X e (RdE X.K ce)) (hs : starEach [e] X.env = (false, eval e X.env) :: starEach [] X.env := by rfl) : PI X tg (.Call (.Name "reversed" p) [e] [] pos) (RdI X.K (cRev ce)) :=
  (RT.pi_revA hg hm h hs).weak fun σ H Q ⟨ι, ρ, S, cf, xs, tr, S', e, k⟩ => by
  obtain ⟨d, S1, e1, e2⟩ := bind_ok e
  refine RdE.run cf e1 fun v ι1 H1 st1 cf1 r1 => ?_
  cases d with
  | p x =>
    cases x with
    | tup ys =>
      cases e2
      obtain ⟨a, vs, rfl, h1, q1⟩ := r1.tupD
      exact ⟨a, vs, rfl, .inr ⟨h1.sq, k _ ι1 H1 st1 cf1.wd (go_revT h1 q1 q1.length.symm)⟩⟩
    | ro ys =>
      cases e2
      cases r1 with
      | p r1 =>
        cases r1 with
        | @ro a vs _ h hn q1 => exact ⟨_, vs, rfl, .inl ⟨.inl h, k _ ι1 H1 st1 cf1.wd (go_revL (fun ι2 H2 S2 st2 _ _ => ⟨vs, .inl (st2.rd h hn).1, q1.monoH st2⟩) q1.length.symm)⟩⟩
    | scr ys =>
      cases e2
      cases r1 with
      | p r1 =>
        cases r1 with
        | @scr a vs _ h q1 => exact ⟨_, vs, rfl, .inl ⟨h.sq, k _ ι1 H1 st1 cf1.wd (go_revL (fun ι2 H2 S2 st2 _ _ => ⟨vs, (h.monoH st2).sq, q1.monoH st2⟩) q1.length.symm)⟩⟩
    | _ => cases e2
  | ref m =>
    simp only at e2
    split at e2
    · rename_i ys hy
      cases e2
      obtain ⟨a, vs, rfl, hix, h1, q1⟩ := cf1.wd.lst r1 hy
      refine ⟨a, vs, rfl, .inl ⟨.of h1, k _ ι1 H1 st1 cf1.wd (go_revL (fun ι2 H2 S2 st2 wd2 ok => ?_) q1.length.symm)⟩⟩
      have hS := okT_at ok
      have q := wd2.ob m _ hS
      rcases st2.old m _ hix with e | e
      · rw [e] at q
        cases q with
        | lst e1 r => exact ⟨_, .of e1, r⟩
      · rw [e] at q
        cases q
    · cases e2
def sForK (i : Nat) (g : CG) (b : CS) : CS := sFor (cKeys i) g b
theorem rs_forK {x : Str} {p : Pos} {i : Nat} (hp : PassesOwn (model X.prog X.w) X.A X.env X.xe) (hc : X.calm = true) (hv : PE X (.Name x p) (tVar i)) (hg : PG X tg (RdG X.K is g)) (hb : PSs X body (RdS X.K cb))
    (hs : ∀ y, foldedSetIterable (.Name x p) X.env y = pure y := by intro _; rfl) : PS X (.For tg (.Name x p) body [] pos) (RdS X.K (sForK i g cb)) := by
  have base := ps_for (pos := pos) hp hc (pi_keys hv) hg hb hs
  refine ⟨fun pins s σ H E I h => ?_⟩
  obtain ⟨ι, ρ, S, cf, f, S', e, k⟩ := h
  obtain ⟨⟨xs, tr⟩, S1, e1, e2⟩ := bind_ok e
  unfold cKeys at e1
  split at e1
  · rename_i kvs hi
    split at e1
    · rename_i hk
      cases e1
      obtain ⟨v, hσ, r⟩ := cf.sv i _ hi
      obtain ⟨d, kws, rfl, hd, q⟩ := cf.wd.dct r (d := .p (.dic kvs)) rfl
      have hn : ¬ ι.has d := by
        cases r with
        | p r => cases r with
          | dic _ hn _ => exact hn
      rcases hd with hd | ⟨o, hd⟩
      · refine (ps_lock base).run pins s σ H E I ⟨d, .dK kws, hd, trivial, fun od => ?_⟩
        have ov := over_lock (od := od) hd
        refine ⟨.ref d, hσ, d, od, rfl, .inl ⟨kws, upd_same, ?_⟩⟩
        refine for_go (cf.over ov hn) (go_keys upd_same hn (RKs.over ov q) hk) ⟨f, S', e2, ?_⟩
        cases f with
        | nx ρ' => exact fun σ' ι' H' st cf' => let ⟨a, b, c⟩ := st.locked hd hn; ⟨a, k σ' ι' _ c (cf'.over (over_unlock a) b)⟩
        | rt d => exact fun v ι' H' st wd r => let ⟨a, b, c⟩ := st.locked hd hn; ⟨a, k v ι' _ c (wd.over (over_unlock a) b) (r.over (over_unlock a))⟩
        | bk ρ' => exact fun σ' ι' H' st cf' => let ⟨a, b, c⟩ := st.locked hd hn; ⟨a, k σ' ι' _ c (cf'.over (over_unlock a) b)⟩
        | ct ρ' => exact fun σ' ι' H' st cf' => let ⟨a, b, c⟩ := st.locked hd hn; ⟨a, k σ' ι' _ c (cf'.over (over_unlock a) b)⟩
      · refine base.run pins s σ H E I ⟨.ref d, hσ, d, o, rfl, .inl ⟨kws, hd, for_go cf (go_keys hd hn q hk) ⟨f, S', e2, k⟩⟩⟩
    · cases e1
  · cases e1
end
end Cw
set_option Elab.async false
set_option linter.all false
set_option maxRecDepth 100000
set_option maxHeartbeats 4000000
/-! Cw20: is True, dict(d), list(d), zip, enumerate. -/
namespace Cw
open PySem PySem.Spec PyProof.Rows L2

section
variable {X : Cx} {a b e tg : Expr} {ca cb ce : CE} {p pos : Pos}
/-! ### is True -/
def gIsB (neg : Bool) : D → D → Sto → R D
  | .p (.bl x), .p (.bl y), S => .ok (.p (.bl (if neg then !decide (x = y) else decide (x = y)))) S
  | _, _, _ => .no
theorem isB_ways (neg : Bool) (x y : D) (S : Sto) (d : D) (S' : Sto) (e : gIsB neg x y S = .ok d S') : ∃ r, OpR X (compareOp (if neg then .IsNot else .Is)) r ∧ Lk2 X.K r (gIsB neg) x y S := by
  unfold gIsB at e
  split at e
  · rename_i x y _
    cases neg with
    | false =>
      refine ⟨_, op_is_bl, fun ι H v w d S' Q wd r1 r2 e k => ?_⟩
      cases e
      cases r1.blD; cases r2.blD
      exact ⟨_, _, rfl, rfl, k _ ι H (.refl _ _) wd (.p (.bl _))⟩
    | true =>
      refine ⟨_, op_isnot_bl, fun ι H v w d S' Q wd r1 r2 e k => ?_⟩
      cases e
      cases r1.blD; cases r2.blD
      exact ⟨_, _, rfl, rfl, k _ ι H (.refl _ _) wd (.p (.bl _))⟩
  · cases e
theorem re_isB (ha : PE X a (RdE X.K ca)) (hb : PE X b (RdE X.K cb)) : PE X (.Compare a [.Is] [b] pos) (RdE X.K (c2 (gIsB false) ca cb)) := re2 (cmp_ways (nomark _) (isB_ways false)).1 ha hb
theorem re_isntB (ha : PE X a (RdE X.K ca)) (hb : PE X b (RdE X.K cb)) : PE X (.Compare a [.IsNot] [b] pos) (RdE X.K (c2 (gIsB true) ca cb)) := re2 (cmp_ways (nomark _) (isB_ways true)).1 ha hb
theorem rt_isB (ha : PE X a (RdE X.K ca)) (hb : PE X b (RdE X.K cb)) : PT X (.Compare a [.Is] [b] pos) (RdT X.K (cT (c2 (gIsB false) ca cb))) := rt2 (cmp_ways (nomark _) (isB_ways false)).2 ha hb
theorem rt_isntB (ha : PE X a (RdE X.K ca)) (hb : PE X b (RdE X.K cb)) : PT X (.Compare a [.IsNot] [b] pos) (RdT X.K (cT (c2 (gIsB true) ca cb))) := rt2 (cmp_ways (nomark _) (isB_ways true)).2 ha hb
/-! ### dict(d) -/
def cDCopy (c : CE) : CD := fun ρ S => (c ρ S).bind fun d S1 => match dicL d S1 with
  | some kvs => .ok kvs S1
  | none => .no
theorem rd_copy {x : Str} (hg : Gl X x) (hm : X.mg x = none) (hv : bootBuiltins x = some (.type "dict")) (ha : PE X e (RdE X.K ca)) (hn : x ≠ "__name__" := by decide) (hdb : (x == ("__debug__" : Str)) = false := by decide)
    (he : starEach (e :: []) X.env = (false, eval e X.env) :: starEach [] X.env := by rfl) (hpl : (backTo pos (starEach [] X.env)).any (·.1) = false := by rfl) : PE X (.Call (.Name x p) [e] [] pos) (RdD X.K (cDCopy ca)) :=
  (pe_callTy call_dictD hg hm hv (pa_cons ha pa_nil he) hn hdb he hpl).weak fun σ H Q ⟨ι, ρ, S, cf, d, S', e, k⟩ => by
    obtain ⟨x, S1, e1, e2⟩ := bind_ok e
    refine RdE.run cf e1 fun v ι1 H1 st1 cf1 r1 => ?_
    split at e2
    · rename_i xs hx
      cases e2
      obtain ⟨a, vs, rfl, h1, q1⟩ := cf1.wd.dct r1 hx
      exact ⟨a, vs, rfl, h1, PostD.intro st1 cf1.wd q1 rfl k⟩
    · cases e2
/-! ### list(d) -/
theorem RKs.keys {K : PySem.W.Frag} {ι : Lk} {H : Hp} : ∀ {ws : List (Key × V)} {xs : List (Key × P)}, RKs K ι H ws xs → xs.all (fun kv => keyOk kv.1) = true → RPs K ι H (ws.map fun kv => kV kv.1) (keysP xs)
  | _, _, .nil, _ => .nil
  | _, _, .cons (k := k) r t, h => by
    rw [List.all_cons, Bool.and_eq_true] at h
    exact .cons (keyU_rp h.1) (t.keys h.2)
def nKeys (c : CE) : CN := fun ρ S => (c ρ S).bind fun d S1 => match dicL d S1 with
  | some kvs => if kvs.all (fun kv => keyOk kv.1) then .ok (keysP kvs) S1 else .no
  | none => .no
theorem rn_keys {x : Str} (hc : X.calm = true) (hg : Gl X x) (hm : X.mg x = none) (hv : bootBuiltins x = some (.type "list")) (ha : PE X e (RdE X.K ca)) (hn : x ≠ "__name__" := by decide) (hdb : (x == ("__debug__" : Str)) = false := by decide)
    (he : starEach (e :: []) X.env = (false, eval e X.env) :: starEach [] X.env := by rfl) (hpl : (backTo pos (starEach [] X.env)).any (·.1) = false := by rfl) : PE X (.Call (.Name x p) [e] [] pos) (RdN X.K (nKeys ca)) :=
  (pe_callTy (call_listD hc) hg hm hv (pa_cons ha pa_nil he) hn hdb he hpl).weak fun σ H Q ⟨ι, ρ, S, cf, d, S', e, k⟩ => by
    obtain ⟨x, S1, e1, e2⟩ := bind_ok e
    refine RdE.run cf e1 fun v ι1 H1 st1 cf1 r1 => ?_
    split at e2
    · rename_i kvs hx
      split at e2
      · rename_i hk
        cases e2
        obtain ⟨a, vs, rfl, h1, q1⟩ := cf1.wd.dct r1 hx
        exact ⟨a, vs, rfl, h1, PostN.intro st1 cf1.wd (q1.keys hk) rfl k⟩
      · cases e2
    · cases e2
/-! ### pairs on the way -/
theorem pair_new {K : PySem.W.Frag} {ι : Lk} {H : Hp} {S : Sto} {T : Addr} {vs : List V} {xs : List P} {o : Obj} (wd : Wd K ι H S) (hT : H T = none) (hd : o.dict = none) (r : RPs K ι H vs xs) : Step ι H ι (upd H T (.frz o (.tup vs))) ∧ Wd K ι (upd H T (.frz o (.tup vs))) S ∧ RP K ι (upd H T (.frz o (.tup vs))) (.ref T) (.tup xs) :=
  ⟨Step.new1 wd hT _, wd.new1 hT _, .tup (TupAt.new wd hT hd) (r.mono (Step.new1 wd hT _))⟩
/-- a tuple, a list that stands -/
def seqXP : D → Option (Bool × List P)
  | .p (.tup xs) => some (true, xs)
  | .p (.ro xs) => some (false, xs)
  | _ => none
def StX (t : Bool) (K : PySem.W.Frag) (ι : Lk) (H : Hp) (a : Addr) (vs : List V) : Prop := match t with
  | false => Rd H a (.lst vs) ∧ ¬ ι.has a
  | true => TupAt K ι H a vs
theorem StX.sq {t : Bool} {K : PySem.W.Frag} {ι : Lk} {H : Hp} {a : Addr} {vs : List V} (h : StX t K ι H a vs) : SqX t K H a vs := by
  cases t with
  | false => exact .inl h.1
  | true => exact TupAt.sq h
theorem StX.monoH {t : Bool} {K : PySem.W.Frag} {ι ι' : Lk} {H H' : Hp} {a : Addr} {vs : List V} (st : StepH ι H ι' H') (h : StX t K ι H a vs) : StX t K ι' H' a vs := by
  cases t with
  | false => exact st.rd h.1 h.2
  | true => exact TupAt.monoH st h
theorem seqXD {K : PySem.W.Frag} {ι : Lk} {H : Hp} {v : V} {d : D} {t : Bool} {xs : List P} (r : RD K ι H v d) (e : seqXP d = some (t, xs)) : ∃ a vs, v = .ref a ∧ StX t K ι H a vs ∧ RPs K ι H vs xs := by
  unfold seqXP at e
  split at e
  · cases e
    exact r.tupD
  · cases e
    cases r with
    | p r =>
      cases r with
      | ro h n q => exact ⟨_, _, rfl, ⟨h, n⟩, q⟩
  · cases e
def zipP (xs ys : List P) : List P := List.zipWith (fun x y => P.tup [x, y]) xs ys
def cZip (a b : CE) : CI := fun ρ S => (a ρ S).bind fun x S1 => (b ρ S1).bind fun y S2 => match seqXP x, seqXP y with
  | some (t, xs), some (u, ys) => if t = u then .ok (zipP xs ys, none) S2 else .no
  | _, _ => .no
theorem zip_at {xs ys : List P} {i : Nat} {z : P} (e : (zipP xs ys)[i]? = some z) : ∃ x y, xs[i]? = some x ∧ ys[i]? = some y ∧ z = .tup [x, y] := by
  unfold zipP at e
  rw [List.getElem?_zipWith] at e
  cases hx : xs[i]? with
  | none => rw [hx] at e; cases e
  | some x =>
    cases hy : ys[i]? with
    | none => rw [hx, hy] at e; cases e
    | some y =>
      rw [hx, hy] at e
      cases e
      exact ⟨x, y, rfl, rfl, rfl⟩
theorem zip_len (xs ys : List P) : (zipP xs ys).length = min xs.length ys.length := List.length_zipWith
theorem zip_okE {x y : D} {S S' : Sto} {z : List P × Option (Nat × List P)} (e : (match seqXP x, seqXP y with
  | some (t, xs), some (u, ys) => if t = u then .ok (zipP xs ys, none) S else .no
  | _, _ => .no : R (List P × Option (Nat × List P))) = .ok z S') : ∃ t xs ys, seqXP x = some (t, xs) ∧ seqXP y = some (t, ys) ∧ z = (zipP xs ys, none) ∧ S' = S := by
  split at e
  · split at e
    · rename_i h
      cases e
      subst h
      exact ⟨_, _, _, by assumption, by assumption, rfl, rfl⟩
    · cases e
  · cases e
theorem ri_zip {elts : List Expr} {kk : Nat} {tpos : Pos} (hg : Gl X "zip") (hm : X.mg "zip" = none) (ha : PE X a (RdE X.K ca)) (hb : PE X b (RdE X.K cb))
    (hs : starEach [a, b] X.env = (false, eval a X.env) :: starEach [b] X.env := by rfl) (hs2 : starEach (b :: []) X.env = (false, eval b X.env) :: starEach [] X.env := by rfl) (hpl : (backTo pos (starEach [b] X.env)).any (·.1) = false := by rfl) :
    PI X (.Tuple elts kk tpos) (.Call (.Name "zip" p) [a, b] [] pos) (RdI X.K (cZip ca cb)) := by
  have pa := pa_cons ha (pa_cons hb pa_nil hs2) hs
  refine (PI.orr (pi_zipX false hg hm pa hs hpl) (pi_zipX true hg hm pa hs hpl)).weak fun σ H Q ⟨ι, ρ, S, cf, xs, tr, S', e, k⟩ => ?_
  obtain ⟨x, S1, e1, e2⟩ := bind_ok e
  obtain ⟨y, S2, e3, e4⟩ := bind_ok e2
  obtain ⟨t, ps, qs, hx, hy, ez, rfl⟩ := zip_okE e4
  cases ez
  have key : iZipX t X.K (tCons (RdE X.K ca) (tCons (RdE X.K cb) tNil)) σ H Q := by
    refine RdE.run cf e1 fun v ι1 H1 st1 cf1 r1 => RdE.run cf1 e3 fun w ι2 H2 st2 cf2 r2 => ?_
    have r1 := r1.mono st2
    have st := st1.trans st2
    obtain ⟨a, vs, rfl, h1, q1⟩ := seqXD r1 hx
    obtain ⟨b, ws, rfl, h2, q2⟩ := seqXD r2 hy
    refine ⟨a, b, vs, ws, rfl, h1.sq, h2.sq, k _ ι2 H2 st cf2.wd fun ι3 H3 S3 st3 wd3 _ => ?_⟩
    have g1 := (h1.monoH st3).sq
    have g2 := (h2.monoH st3).sq
    have p1 := q1.monoH st3
    have p2 := q2.monoH st3
    refine ⟨fun i z e => ?_, ⟨vs, ws, g1, g2, ?_⟩⟩
    · obtain ⟨x, y, hx, hy, rfl⟩ := zip_at e
      obtain ⟨v, hv, rv⟩ := p1.get hx
      obtain ⟨w, hw, rw'⟩ := p2.get hy
      refine ⟨⟨vs, ws, v, w, g1, g2, hv, hw⟩, fun u H' ⟨T, o, v2, w2, eu, hT, hd, eH, y1, y2⟩ => ?_⟩
      subst eu eH
      have := y1 vs g1
      rw [hv] at this
      cases this
      have := y2 ws g2
      rw [hw] at this
      cases this
      exact pair_new wd3 hT hd (.cons rv (.cons rw' .nil))
    · rw [zip_len, p1.length, p2.length]; omega
  cases t with
  | false => exact .inl key
  | true => exact .inr key
end
end Cw
set_option Elab.async false
set_option linter.all false
set_option maxRecDepth 100000
set_option maxHeartbeats 4000000
/-! Cw21: loops over a list of the store; more that is reckoned with. -/
namespace Cw
open L2
open PySem hiding Run
theorem okT_self {m : Nat} {xs ys : List P} {S : Sto} (h : S[m]? = some (.lst ys)) : okT (some (m, ys)) xs S = true := by
  unfold okT
  simp only [h]
  exact beqs_rfl ys
theorem forT {α β : Type} {g : CG} {body : CS} {tr : Option (Nat × List P)} {xs0 : List P} {k : Fl → Sto → R β} {Q : β → Sto → Prop} (enc : α → P) (l : List α) (I : List α → Ev → Sto → Prop) (hok : ∀ pre ρ S, I pre ρ S → okT tr xs0 S = true) : ∀ (post pre : List α) (ρ : Ev) (S : Sto), pre ++ post = l → I pre ρ S →
    (∀ pre x post ρ S, l = pre ++ x :: post → I pre ρ S → Nd (turnF g body (enc x) ρ S) fun f S' => (∃ ρ', f = .nx ρ' ∧ I (pre ++ [x]) ρ' S') ∨ ∃ d, f = .rt d ∧ Nd (k f S') Q) →
    (∀ ρ S, I l ρ S → Nd (k (.nx ρ) S) Q) → Nd ((forL g body tr xs0 (post.map enc) ρ S).bind k) Q
  | [], pre, ρ, S, e, h, _, hk => by
    rw [List.append_nil] at e
    subst e
    rw [List.map_nil]
    unfold forL
    rw [if_pos (hok _ _ _ h)]
    exact hk ρ S h
  | x :: r, pre, ρ, S, e, h, hs, hk => by
    obtain ⟨f, S', e1, h1⟩ := hs pre x r ρ S e.symm h
    obtain ⟨ρ1, S1, e2, e3⟩ := bind_ok e1
    rw [List.map_cons]
    unfold forL
    rw [if_pos (hok _ _ _ h), e2, bind_okE, e3, bind_okE]
    rcases h1 with ⟨ρ', rfl, h2⟩ | ⟨d, rfl, h2⟩
    · exact forT enc l I hok r (pre ++ [x]) ρ' S' (by rw [List.append_assoc]; exact e) h2 hs hk
    · exact h2
theorem forT0 {α β : Type} {g : CG} {body : CS} {tr : Option (Nat × List P)} {xs0 : List P} {k : Fl → Sto → R β} {Q : β → Sto → Prop} {ρ : Ev} {S : Sto} {enc : α → P} {l : List α} (I : List α → Ev → Sto → Prop) (hok : ∀ pre ρ S, I pre ρ S → okT tr xs0 S = true) (h : I [] ρ S)
    (hs : ∀ pre x post ρ S, l = pre ++ x :: post → I pre ρ S → Nd (turnF g body (enc x) ρ S) fun f S' => (∃ ρ', f = .nx ρ' ∧ I (pre ++ [x]) ρ' S') ∨ ∃ d, f = .rt d ∧ Nd (k f S') Q)
    (hk : ∀ ρ S, I l ρ S → Nd (k (.nx ρ) S) Q) : Nd ((forL g body tr xs0 (l.map enc) ρ S).bind k) Q := forT enc l I hok l [] ρ S rfl h hs hk
@[simp] theorem xKeys (i : Nat) (ρ : Ev) (S : Sto) (kvs : List (Key × P)) (h : ρ[i]? = some (some (.p (.dic kvs)))) (hk : kvs.all (fun kv => keyOk kv.1) = true) : cKeys i ρ S = .ok (keysP kvs, none) S := by
  simp only [cKeys, h, hk, if_true]
theorem vRevRef {c : CE} {ρ : Ev} {S S1 : Sto} {m : Nat} {xs : List P} (h : c ρ S = .ok (.ref m) S1) (hS : S1[m]? = some (.lst xs)) : cRev c ρ S = .ok (xs.reverse, some (m, xs)) S1 := by
  simp only [cRev, h, bind_okE, hS]
@[simp] theorem vIntsSum (is : List Int) (S : Sto) : gSum [.p (.ro (is.map .int))] S = .ok (.p (.int is.sum)) S := by
  have h : ∀ is : List Int, intsP (is.map .int) = some is := fun is => by
    induction is with
    | nil => rfl
    | cons x r ih => rw [List.map_cons, intsP, ih]; rfl
  simp [gSum, gIntsOf, seqA, seqL, h]
theorem compT {α : Type} {g : CG} {e : CE} {xs0 : List P} {ρ : Ev} (enc : α → P) (l : List α) (hl : l.length ≤ 16777216) (I : List α → List P → Sto → Prop)
    (hs : ∀ pre x post acc S, l = pre ++ x :: post → I pre acc S → ∃ ρ1 S1 y S2, g (.p (enc x)) ρ S = .ok ρ1 S1 ∧ e ρ1 S1 = .ok (.p y) S2 ∧ I (pre ++ [x]) (acc ++ [y]) S2) : ∀ (post pre : List α) (acc : List P) (S : Sto), pre ++ post = l → acc.length = pre.length → I pre acc S →
    ∃ ys S', compL g cYes e none xs0 (post.map enc) acc ρ S = .ok ys S' ∧ I l ys S'
  | [], pre, acc, S, e1, _, h => by
    rw [List.append_nil] at e1
    subst e1
    exact ⟨acc, S, by simp [compL], h⟩
  | x :: r, pre, acc, S, e1, ha, h => by
    obtain ⟨ρ1, S1, y, S2, e2, e3, h2⟩ := hs pre x r acc S e1.symm h
    have hlt : acc.length < sizeLine := by
      rw [sizeLine_eq, ha]
      rw [← e1, List.length_append, List.length_cons] at hl
      omega
    obtain ⟨ys, S', e4, h4⟩ := compT (g := g) (e := e) (xs0 := xs0) (ρ := ρ) enc l hl I hs r (pre ++ [x]) (acc ++ [y]) S2 (by rw [List.append_assoc]; exact e1) (by rw [List.length_append, List.length_append, ha]; rfl) h2
    refine ⟨ys, S', ?_, h4⟩
    rw [List.map_cons]
    simp only [compL, okT, if_true, e2, bind_okE, xYes, e3, hlt, e4]
end Cw
set_option Elab.async false
set_option linter.all false
set_option maxRecDepth 100000
set_option maxHeartbeats 4000000
/-! Cw22: join, enumerate, dict(pairs). -/
namespace Cw
open PySem PySem.Spec PyProof.Rows L2

/-! ### s.join(xs) -/
theorem RPs.strs' {K : PySem.W.Frag} {ι : Lk} {H : Hp} : ∀ {vs : List V} {xs : List P} {ys : List Str}, RPs K ι H vs xs → strsP xs = some ys → vs = ys.map V.str
  | _, _, _, .nil, e => by cases e; rfl
  | _, _, _, .cons r t, e => by
    cases r with
    | str _ =>
      simp only [strsP, Option.map_eq_some_iff] at e
      obtain ⟨zs, h, rfl⟩ := e
      rw [t.strs' h]; rfl
    | _ => cases e
def gJoin : D → List D → Sto → R D := fun x ds S => match x, ds with
  | .p (.str a), [d] => match (itemsA d S).bind strsP with
    | some ys => if ((ys.map (·.length)).sum + ys.length * a.length ≤ 16777216) ∧ PyData.strOk (Txt.join a ys) = true then .ok (.p (.str (Txt.join a ys))) S else .no
    | none => .no
  | _, _ => .no
theorem gJoin_ok {x : D} {ds : List D} {S S' : Sto} {d : D} (e : gJoin x ds S = .ok d S') : ∃ a d0 ys, x = .p (.str a) ∧ ds = [d0] ∧ (itemsA d0 S).bind strsP = some ys ∧ (ys.map (·.length)).sum + ys.length * a.length ≤ 16777216 ∧ PyData.strOk (Txt.join a ys) = true ∧ d = .p (.str (Txt.join a ys)) ∧ S' = S := by
  unfold gJoin at e
  split at e
  · split at e
    · rename_i h
      split at e
      · rename_i hc
        cases e
        exact ⟨_, _, _, rfl, rfl, h, hc.1, hc.2, rfl, rfl⟩
      · cases e
    · cases e
  · cases e
theorem w_join {X : Cx} : WaysM X "str.join" gJoin := fun x ds S d S' e => by
  refine ⟨_, mt_join, fun ι H v vs d S' Q wd r1 r2 e k => ?_⟩
  obtain ⟨a, d0, ys, rfl, rfl, hy, hz, ho, rfl, rfl⟩ := gJoin_ok e
  obtain ⟨xs, hx, hs⟩ := Option.bind_eq_some_iff.mp hy
  obtain ⟨rfl, _⟩ := r1.strD
  obtain ⟨w, rfl, rw'⟩ := r2.one
  obtain ⟨p, us, rfl, h, q⟩ := wd.items rw' hx
  have := q.strs' hs
  subst this
  exact ⟨a, p, ys, rfl, rfl, h, hz, k _ ι H (.refl _ _) wd (.p (.str ho))⟩
/-! ### enumerate(xs) -/
def enumP (xs : List P) : List P := xs.zipIdx.map fun z => P.tup [.int (z.2 : Nat), z.1]
def cEnum (c : CE) : CI := fun ρ S => (c ρ S).bind fun d S1 => match seqXP d with
  | some (_, xs) => .ok (enumP xs, none) S1
  | _ => .no
theorem enum_at {xs : List P} {i : Nat} {z : P} (e : (enumP xs)[i]? = some z) : ∃ x, xs[i]? = some x ∧ z = .tup [.int (i : Nat), x] := by
  unfold enumP at e
  rw [List.getElem?_map, List.getElem?_zipIdx] at e
  cases hx : xs[i]? with
  | none => rw [hx] at e; cases e
  | some x =>
    rw [hx] at e
    simp at e
    exact ⟨x, rfl, e.symm⟩
section
variable {X : Cx} {e : Expr} {ce : CE} {p pos : Pos}
theorem ri_enum {elts : List Expr} {kk : Nat} {tpos : Pos} (hg : Gl X "enumerate") (hm : X.mg "enumerate" = none) (h : PE X e (RdE X.K ce)) (hs : starEach [e] X.env = [(false, eval e X.env)] := by rfl) (hs1 : starEach (e :: []) X.env = (false, eval e X.env) :: starEach [] X.env := by rfl) :
    PI X (.Tuple elts kk tpos) (.Call (.Name "enumerate" p) [e] [] pos) (RdI X.K (cEnum ce)) := by
  have pa := pa_cons h pa_nil hs1
  refine (PI.orr (pi_enumX false hg hm pa hs) (pi_enumX true hg hm pa hs)).weak fun σ H Q ⟨ι, ρ, S, cf, xs, tr, S', e, k⟩ => ?_
  obtain ⟨d, S1, e1, e2⟩ := bind_ok e
  have key : ∀ t ys, seqXP d = some (t, ys) → iEnumX t X.K (tCons (RdE X.K ce) tNil) σ H Q := fun t ys hd => by
    rw [hd] at e2
    cases e2
    refine RdE.run cf e1 fun v ι1 H1 st1 cf1 r1 => ?_
    obtain ⟨a, vs, rfl, h1, q1⟩ := seqXD r1 hd
    refine ⟨a, vs, rfl, h1.sq, k _ ι1 H1 st1 cf1.wd fun ι3 H3 S3 st3 wd3 _ => ?_⟩
    have g1 := (h1.monoH st3).sq
    have p1 := q1.monoH st3
    refine ⟨fun i z e => ?_, ⟨vs, g1, by unfold enumP; rw [List.length_map, List.length_zipIdx, p1.length]⟩⟩
    obtain ⟨x, hx, rfl⟩ := enum_at e
    obtain ⟨v, hv, rv⟩ := p1.get hx
    refine ⟨⟨vs, v, g1, hv⟩, fun u H' ⟨T, o, v2, eu, hT, hd, eH, y1⟩ => ?_⟩
    subst eu eH
    have := y1 vs g1
    rw [hv] at this
    cases this
    exact pair_new wd3 hT hd (.cons (.int _) (.cons rv .nil))
  cases hd : seqXP d with
  | none => rw [hd] at e2; cases e2
  | some z =>
    obtain ⟨t, ys⟩ := z
    cases t with
    | false => exact .inl (key _ _ hd)
    | true => exact .inr (key _ _ hd)
end
end Cw
set_option Elab.async false
set_option linter.all false
set_option maxRecDepth 100000
set_option maxHeartbeats 4000000
/-! Cw23: xs[a:c] = ys, c beyond the end or not. -/
namespace Cw
open PySem PySem.Spec PyProof.Rows L2

theorem cut_bounds {a c n : Nat} (h : a ≤ n) (hac : a ≤ c) : sliceBounds (some (a : Int)) (some (c : Int)) none n = ((a : Int), ((min c n : Nat) : Int), 1) := by
  have e1 : ¬ ((a : Int) < 0) := by omega
  have e2 : ¬ ((c : Int) < 0) := by omega
  simp only [sliceBounds, Option.getD_none, e1, e2, if_false, show (1 : Int) > 0 by decide, if_true]
  have h1 : max 0 (min (a : Int) (n : Int)) = (a : Int) := by omega
  have h2 : max 0 (min (c : Int) (n : Int)) = ((min c n : Nat) : Int) := by omega
  rw [h1, h2]
section
variable {prog : Program} {w : World} {A : Around} {E : Value → Shared → Prop} {s : Shared}
theorem put_cut {l b sl : Addr} {xs ys : Array Value} {n m : Nat} {vl vu : Value} {a c : Nat} {Q : Unit → Shared → Prop} (e : s.heap.get? l = some { cls := .type "list", data := .seq xs n }) (e2 : s.heap.get? b = some { cls := .type "list", data := .seq ys m }) (hne : l ≠ b)
    (hs : s.heap.IsSliceOf sl vl vu .none) (pl : IsPart vl (some (a : Int))) (pu : IsPart vu (some (c : Int))) (ha : a ≤ xs.size) (hac : a ≤ c) (hsz : xs.size + ys.size ≤ sizeLine)
    (h : Q () { s with heap := s.heap.update l (Obj.mapSeq fun zs => zs.extract 0 a ++ ys ++ zs.extract (min c xs.size) zs.size) }) : wpAny (model prog w) A (setItem (.ref l) (.ref sl) (.ref b)) Q E s := by
  obtain ⟨os, hos, hcs, hds⟩ := id hs
  have hT : s.TypeIs (.ref sl) "slice" := ⟨os, hos, hcs⟩
  have hl := PySem.IsL.isList e
  have hb := PySem.IsL.isList e2
  have hsame : Builtin.List.listSameRef (.ref l) (.ref b) = false := beq_eq_false_iff_ne.mpr hne
  have hmax : (max (a : Int) ((min c xs.size : Nat) : Int)).toNat = min c xs.size := by omega
  unfold setItem
  try with_reducible refine wpAny_holding ?_
  first | refine wpAny_bind (wpAny_pure ?_) | skip
  refine wpAny_bind (wpAny_sequenceKey hl.typeIs (by decide) (wpAny_bind (wpAny_callSpecial?_slot (name := Str.ofString "__setitem__") hl.typeIs slot_list_setitem (wpAny_call_entry slot_list_setitem hl.typeIs entry_list_setitem ?_ (args_list_setitem _ _ _)))))
  show wpAny _ _ (Builtin.List.listSubscript? (.ref sl) >>= _) _ _ s
  refine wpAny_bind ?_
  unfold Builtin.List.listSubscript?
  refine wpAny_bind (wpAny_specialOf hT slice_no_index ?_)
  simp only [Option.isNone_none, if_true]
  refine wpAny_pure ?_
  show wpAny _ _ (typeOf (.ref sl) >>= _) _ _ s
  refine wpAny_bind (wpAny_typeOf hT ?_)
  rw [if_neg (by decide), listSliceParts_eq]
  have nostep : ¬ ((rawPart none == rawInt 0) = true) := Bool.false_ne_true
  refine wpAny_bind (wpAny_bind (wpAny_field (x := .none) hos hds rfl (wpAny_bind (wpAny_listPart .none ?_))))
  rw [if_neg nostep]
  refine wpAny_bind (wpAny_field (x := vl) hos hds rfl (wpAny_bind (wpAny_listPart pl (wpAny_bind (wpAny_field (x := vu) hos hds rfl (wpAny_bind (wpAny_listPart pu (wpAny_pure ?_))))))))
  dsimp only
  rw [if_neg (by rw [hsame]; exact Bool.false_ne_true)]
  refine wpAny_bind ?_
  unfold Builtin.List.listAllItems Builtin.List.listItems
  refine wpAny_bind (wpAny_typeOf hb.typeIs ?_)
  rw [if_pos (by decide)]
  refine wpAny_bind (wpAny_seqItems e2 rfl (wpAny_pure (wpAny_bind (wpAny_bind (wpAny_seqItems e rfl (wpAny_pure ?_))))))
  have hsi := (sliceIndices_raw (some (a : Int)) (some (c : Int)) none xs.size (by simp)).trans (congrArg (pure : Int × Int × Int → Sem (Int × Int × Int)) (cut_bounds (c := c) ha hac))
  refine wpAny_bind (wpAny_of_eq hsi ?_)
  dsimp only
  rw [if_pos (by decide)]
  refine wpAny_bind (wpAny_rule ?_)
  rw [if_neg (by rw [notLongL hsz]; exact Bool.false_ne_true)]
  show wpAny _ _ (updateSeq l (fun zs => zs.extract 0 ((a : Int)).toNat ++ ys ++ zs.extract (max (a : Int) ((min c xs.size : Nat) : Int)).toNat zs.size) >>= _) _ _ s
  rw [hmax, Int.toNat_natCast]
  have hz2 : ((fun zs : Array Value => zs.extract 0 a ++ ys ++ zs.extract (min c xs.size) zs.size) xs).size ≤ sizeLine + 1 := by
    simp only [Array.size_append, Array.size_extract]; omega
  refine wpAny_bind (wpAny_updateSeq (hz := Nat.le_trans (Nat.le_add_right _ _) hsz) (_hz' := hz2) e rfl (wpAny_bind (wpAny_letGo ?_)))
  first
    | exact wpAny_bind (wpAny_pure (wpAny_pure ⟨.none, rfl, wpAny_pure h⟩))
    | exact wpAny_pure ⟨.none, rfl, wpAny_pure h⟩
end
section
variable {X : Cx} {o : Expr} {lo hi : Option Expr} {to : TE} {tl th : TO} {p2 pos : Pos}
def tCut (to : TE) (tl th : TO) : TG := fun v σ H Q => to σ H fun x H1 => tl σ H1 fun l H2 => th σ H2 fun u H3 => ∃ (a b : Addr) (xs ys : List V) (i j : Nat), x = .ref a ∧ v = .ref b ∧ a ≠ b ∧ l = some (i : Int) ∧ u = some (j : Int) ∧ H3 a = some (.lst xs) ∧ Rd H3 b (.lst ys) ∧
  i ≤ xs.length ∧ i ≤ j ∧ xs.length + ys.length ≤ sizeLine ∧ Q σ (upd H3 a (.lst (xs.take i ++ ys ++ xs.drop (min j xs.length))))
theorem pg_cut (ho : PE X o to) (hl : PO X lo tl) (hh : PO X hi th) : PG X (.Subscript o (.Slice lo hi none p2) pos) (tCut to tl th) := by
  refine ⟨fun pins s σ H v u Q I r h => ?_⟩
  rw [arm_assign_Subscript]
  refine wpAny_bind (wpAny_holding (thn (ho.run pins s σ H _ I h) fun ov s1 ⟨x, H1, I1, r1, q1⟩ => wpAny_bind (wpAny_holding (wpAny_Slice (thn (hl.run pins s1 σ H1 _ I1 q1) fun vl s2 ⟨l, H2, I2, pl, q2⟩ => thn (hh.run pins s2 σ H2 _ I2 q2) fun vu s3 ⟨w, H3, I3, pu, q3⟩ => ?_)))))
  rw [evalPart_none]
  refine wpAny_pure ?_
  obtain ⟨a, b, xs, ys, i, j, rfl, rfl, hne, rfl, rfl, hA, hB, hi1, hij, hz, q⟩ := q3
  cases r1
  cases r
  have I4 : Inv X pins σ H3 { s3 with heap := s3.heap.push { cls := .type "slice", data := .fields #[vl, vu, .none] } } := I3.kept (t' := s3.toks) fun b ob q => Heap.get?_push_of_some _ q
  obtain ⟨z1, its, n, rv, hl1, e1⟩ := I4.lstM hA
  obtain ⟨z2, its2, n2, rv2, e2⟩ : ys.length ≤ sizeLine ∧ ∃ (its : List Value) (n : Nat), Vals ys its ∧ Heap.get? _ b = some { cls := .type "list", data := .seq its.toArray n } := hB.ok I4.hok
  have hl2 := rv2.length
  refine wpAny_bind (wpAny_standAt (wpAny_bind (wpAny_holding (put_cut (a := i) (c := j) e1 e2 hne (Heap.IsSliceOf.new ..) pl pu (by rw [List.size_toArray]; omega) hij (by rw [List.size_toArray, List.size_toArray]; omega) ?_))))
  refine wpAny_release ⟨σ, _, I4.lset (its' := its.take i ++ its2 ++ its.drop (min j its.length)) (t' := s3.toks) hA e1 ?_ (Vals.append (Vals.append (rv.take _) rv2) ?_) ?_, q⟩
  · rw [List.size_toArray]
    exact splice_eq its its2 i (min j its.length)
  · rw [← hl1]
    exact rv.drop _
  · rw [List.length_append, List.length_append, List.length_take, List.length_drop]
    omega
def gCut (co : CE) (cl ch : CO) : CG := fun d ρ S => (co ρ S).bind fun x S1 => (cl ρ S1).bind fun l S2 => (ch ρ S2).bind fun h S3 => match x, d, l, h with
  | .ref n, .p (.ro ys), some i, some j => match S3[n]? with
    | some (.lst xs) => if 0 ≤ i ∧ i ≤ j ∧ i ≤ xs.length ∧ xs.length + ys.length ≤ sizeLine then .ok ρ (S3.set n (.lst (xs.take i.toNat ++ ys ++ xs.drop (min j.toNat xs.length)))) else .no
    | _ => .no
  | _, _, _, _ => .no
theorem rg_cut {co : CE} {cl ch : CO} (ho : PE X o (RdE X.K co)) (hl : PO X lo (RdO X.K cl)) (hh : PO X hi (RdO X.K ch)) : PG X (.Subscript o (.Slice lo hi none p2) pos) (RdG X.K [] (gCut co cl ch)) :=
  (pg_cut ho hl hh).weak fun v σ H Q ⟨ι, ρ, S, d, cf, r, ρ', S', e, k⟩ => by
    obtain ⟨x, S1, e1, e2⟩ := bind_ok e
    obtain ⟨l, S2, e3, e4⟩ := bind_ok e2
    obtain ⟨h, S3, e5, e6⟩ := bind_ok e4
    refine RdE.run cf e1 fun ov ι1 H1 st1 cf1 r1 => RdO.run cf1 e3 fun ι2 H2 st2 cf2 => RdO.run cf2 e5 fun ι3 H3 st3 cf3 => ?_
    have st := (st1.trans st2).trans st3
    split at e6
    · rename_i n ys i j
      split at e6
      · rename_i xs hx
        split at e6
        · rename_i hc
          cases e6
          obtain ⟨a, vs, rfl, hix, hA, q⟩ := cf3.wd.lst (r1.mono (st2.trans st3)) hx
          have r3 := r.mono st
          cases r3 with
          | p r3 =>
          cases r3 with
          | @ro b ws _ hB hn q2 =>
          have hmem := List.mem_of_getElem? hix
          have hl1 := q.length
          have hl2 := q2.length
          have hne : a ≠ b := fun e => hn (by subst e; exact .inl hmem)
          refine ⟨a, b, vs, ws, i.toNat, j.toNat, rfl, rfl, hne, by congr 1; omega, by congr 1; omega, hA, hB, by omega, by omega, by rw [hl1, hl2]; exact hc.2.2.2, ?_⟩
          have sw := Step.write (H := H3) (ι := ι3) hmem (o := .lst (vs.take i.toNat ++ ws ++ vs.drop (min j.toNat vs.length)))
          refine k σ ι3 _ (st.trans sw) (cf3.step sw (cf3.wd.write hix (.lst upd_same ?_))) rfl fun _ _ => rfl
          have := ((((q.take i.toNat).app q2).app (q.drop (min j.toNat vs.length)))).mono sw
          rw [hl1] at this ⊢
          exact this
        · cases e6
      · cases e6
    · cases e6
end
/-! ### xs.insert(i, y) -/
def gInsert : D → List D → Sto → R D := fun x ds S => onLst x S fun xs => match ds with
  | [.p (.int i), .p y] => if xs.length < sizeLine ∧ 0 ≤ i ∧ i < 2 ^ 63 then .ok (.p .non, xs.take i.toNat ++ [y] ++ xs.drop i.toNat) [] else .no
  | _ => .no
theorem w_insert {X : Cx} : WaysM X "list.insert" gInsert := fun x ds S d S' e => ⟨_, mt_insert, fun ι H v vs d S' Q wd r1 r2 e k => by
  obtain ⟨n, xs, ys, T, rfl, hx, hf, rfl⟩ := onLst_ok e
  split at hf
  · split at hf
    · rename_i i y hc
      cases hf
      obtain ⟨a, us, rfl, hix, h1, q⟩ := wd.lst r1 hx
      obtain ⟨w1, w2, rfl, ri, ry⟩ := r2.two
      have hm := List.mem_of_getElem? hix
      cases ri.intD
      cases ry with
      | p ry => exact ⟨a, us, _, w2, rfl, rfl, h1, by rw [q.length]; exact hc.1, hc.2.1, hc.2.2, k _ ι _ (Step.write hm) (wd.write hix (.lst upd_same ((((q.take _).app (.cons ry .nil)).app (q.drop _)).mono (Step.write hm)))) (.p .non)⟩
    · cases hf
  · cases hf⟩
/-! ### xs[::-1] -/
def nRev (ca : CE) : CN := fun ρ S => (ca ρ S).bind fun x S1 => match seqA x S1 with
  | some xs => .ok xs.reverse S1
  | none => .no
theorem rn_rev {X : Cx} {e : Expr} {ca : CE} {k : Nat} {p1 p2 p3 pos : Pos} (ha : PE X e (RdE X.K ca)) : PE X (.Subscript e (.Slice none none (some (.UnaryOp .USub (.Constant (.int 1) k p1) p2)) p3) pos) (RdN X.K (nRev ca)) :=
  (pe_revL ha).weak fun σ H Q ⟨ι, ρ, S, cf, d, S', e, k⟩ => by
    obtain ⟨x, S1, e1, e2⟩ := bind_ok e
    refine RdE.run cf e1 fun v ι1 H1 st1 cf1 r1 => ?_
    split at e2
    · rename_i xs hx
      cases e2
      obtain ⟨a, vs, rfl, h1, q1⟩ := cf1.wd.seqA r1 hx
      exact ⟨a, vs, rfl, h1, PostN.intro st1 cf1.wd q1.rev rfl k⟩
    · cases e2
end Cw
set_option Elab.async false
set_option linter.all false
set_option maxRecDepth 100000
set_option maxHeartbeats 4000000
/-! Cw24: dict(pairs), calls of what is told by values alone. -/
namespace Cw
open PySem PySem.Spec PyProof.Rows L2

theorem choose_list {α : Type} {n : Nat} {p : Nat → α → Prop} (h : ∀ j, j < n → ∃ x, p j x) : ∃ l : List α, l.length = n ∧ ∀ j x, l[j]? = some x → p j x := by
  induction n with
  | zero => exact ⟨[], rfl, fun j x e => by simp at e⟩
  | succ n ih =>
    obtain ⟨l, hl, hp⟩ := ih fun j hj => h j (Nat.lt_succ_of_lt hj)
    obtain ⟨x, hx⟩ := h n (Nat.lt_succ_self n)
    refine ⟨l ++ [x], by rw [List.length_append, hl]; rfl, fun j y e => ?_⟩
    rcases Nat.lt_or_ge j n with q | q
    · rw [List.getElem?_append_left (by omega)] at e; exact hp j y e
    · have hj := lt_of_get e
      rw [List.length_append, List.length_singleton] at hj
      have : j = n := by omega
      subst this
      rw [List.getElem?_append_right (by omega), hl, Nat.sub_self] at e
      cases e; exact hx
section
variable {X : Cx}
theorem plain_of {pins : List (Addr × Obj)} {σ : L2.St} {H : Hp} {s : Shared} {ι : Lk} {a : Addr} {vs : List V} (I : Inv X pins σ H s) (h : TupAt X.K ι H a vs) : ∃ its : List Value, Vals vs its ∧ PlainSeq "tuple" s.heap a its.toArray ∧ vs.length ≤ sizeLine := by
  rcases h with ⟨⟨o, hd, e⟩, _⟩ | ⟨o, its, n, h1, h2, h3, h4, h5, h6⟩
  · obtain ⟨ho, hz, its, r, o', ho', hc, n, hdt⟩ := I.hok a _ e
    rw [ho] at ho'; cases ho'
    exact ⟨its, r, ⟨o, n, ho, hc, hd, hdt⟩, hz⟩
  · refine ⟨its.toList, h6, ⟨o, n, I.kIn a o h1, h2, h3, by simpa using h4⟩, ?_⟩
    have := h6.length
    rw [this, Array.length_toList]; exact h5
/-- dict(t) of a tuple of pairs -/
theorem call_dictT (hcalm : X.calm = true) : CallR X (.type "dict") (fun xs H Q => ∃ (ι : Lk) (a : Addr) (ps : List Addr) (kvs : List (Key × V)), xs = [.ref a] ∧ TupAt X.K ι H a (ps.map V.ref) ∧ Paired (fun p kv => SqT X.K H p [kV kv.1, kv.2]) ps kvs ∧
    ∀ p, H p = none → Q (.ref p) (upd H p (.dK (mergeK [] kvs)))) := fun pins s σ H xs us Q I r q => by
  obtain ⟨ι, a, ps, kvs, rfl, hq, hp, q⟩ := q
  obtain ⟨u, rfl, rx⟩ := vals1 r
  cases rx
  obtain ⟨its, rv, pl, hz⟩ := plain_of I hq
  have ei := refs_at rv
  subst ei
  rw [List.length_map] at hz
  obtain ⟨prs, rel, hl, hpr⟩ := pairs_of I hp
  obtain ⟨vps, hvl, hv⟩ := choose_list (n := prs.length) (p := fun j (x : Value × Value) => ∃ q b, prs[j]? = some q ∧ ps[j]? = some b ∧ IsTup s.heap b #[x.1, x.2] ∧ x.2 = q.2 ∧ keyIs q.1 x.1 = true) fun j hj => by
    obtain ⟨b, u, h1, h2, h3⟩ := hpr j prs[j] (List.getElem?_eq_getElem hj)
    exact ⟨(u, prs[j].2), prs[j], b, List.getElem?_eq_getElem hj, h1, h2, rfl, h3⟩
  refine PySem.call_dict_pairs (knd := mixKind X.prog X.w) (kvs := prs) (PairArg.tuple a (ps.map Value.ref).toArray (fun j => ps.getD j 0) vps) (I.ok.hd hcalm) ⟨pl, ?_, fun j k v e => ?_⟩ ⟨hvl.symm, fun i key v e => ?_⟩ (by rw [hvl, hl]; exact hz) fun h' tk hd' k => ?_
  · rw [List.size_toArray, List.length_map, hvl, hl]
  · obtain ⟨q0, b, h1, h2, h3, h4, h5⟩ := hv j (k, v) e
    refine ⟨?_, .inl ?_⟩
    · rw [List.getElem?_toArray, List.getElem?_map, h2]; simp [h2]
    · simp only [List.getD_eq_getElem?_getD, h2, Option.getD_some]; exact h3
  · obtain ⟨q0, b, h1, h2, h3, h4, h5⟩ := hv i (key, v) e
    refine ⟨q0.1, ?_, h5⟩
    rw [h1]
    simp only at h4
    rw [h4]
  · have hm : (s.heap.objs.size == sysModules) = false := beq_eq_false_iff_ne.mpr (Nat.ne_of_gt I.big)
    have hlen : (mergeK [] kvs).length ≤ sizeLine := by
      refine Nat.le_trans (length_mergeK kvs []) ?_
      rw [List.length_nil, Nat.zero_add, rel.length, hl]
      exact hz
    exact ⟨.ref s.heap.objs.size, upd H s.heap.objs.size (.dK (mergeK [] kvs)), I.laid (t' := tk) (fun b o e => k b o (by simp) e) (Nat.le_refl _) (show ObjOk X.prog X.w _ _ _ (.dK (mergeK [] kvs)) from ⟨hlen, hm, merged [] prs, KV.merge rel .nil, hd'⟩), rfl, q _ (I.hok.fresh (Nat.le_refl _))⟩
end

/-! ### dict(pairs) -/
def pairsP : List P → Option (List (Key × P))
  | [] => some []
  | .tup [k, v] :: r => (keyP k).bind fun k => (pairsP r).map ((k, v) :: ·)
  | _ :: _ => none
theorem pairs_rel {K : PySem.W.Frag} {ι : Lk} {H : Hp} : ∀ {vs : List V} {xs : List P} {kvs : List (Key × P)}, RPs K ι H vs xs → pairsP xs = some kvs →
    ∃ (ps : List Addr) (kws : List (Key × V)), vs = ps.map V.ref ∧ Paired (fun p kv => SqT K H p [kV kv.1, kv.2]) ps kws ∧ RKs K ι H kws kvs
  | _, _, _, .nil, e => by cases e; exact ⟨[], [], rfl, .nil, .nil⟩
  | _, _, _, .cons r t, e => by
    unfold pairsP at e
    split at e
    · rename_i h; cases h
    · rename_i k v r' h
      cases h
      obtain ⟨ky, hk, e2⟩ := Option.bind_eq_some_iff.mp e
      obtain ⟨ms, hm, rfl⟩ := Option.map_eq_some_iff.mp e2
      obtain ⟨ps, kws, h1, h2, h3⟩ := pairs_rel t hm
      cases r with
      | tup h q =>
        cases q with
        | cons rk q =>
          cases q with
          | cons rv q =>
            cases q
            have := rk.key hk
            subst this
            exact ⟨_ :: ps, (ky, _) :: kws, by rw [h1]; rfl, .cons h.sq h2, .cons rv h3⟩
    · cases e
def cDPairs (c : CE) : CD := fun ρ S => (c ρ S).bind fun d S1 => match d with
  | .p (.tup xs) => match pairsP xs with
    | some kvs => .ok (mergeP [] kvs) S1
    | none => .no
  | d => match (seqL d S1).bind pairsP with
    | some kvs => .ok (mergeP [] kvs) S1
    | none => .no
section
variable {X : Cx} {e : Expr} {ca : CE} {p pos : Pos} {x : Str}
theorem rd_pairs (hc : X.calm = true) (hg : Gl X x) (hm : X.mg x = none) (hv : bootBuiltins x = some (.type "dict")) (ha : PE X e (RdE X.K ca)) (hn : x ≠ "__name__" := by decide) (hdb : (x == ("__debug__" : Str)) = false := by decide)
    (he : starEach (e :: []) X.env = (false, eval e X.env) :: starEach [] X.env := by rfl) (hpl : (backTo pos (starEach [] X.env)).any (·.1) = false := by rfl) : PE X (.Call (.Name x p) [e] [] pos) (RdD X.K (cDPairs ca)) := by
  have pa := pa_cons ha pa_nil he
  refine (PE.orr (pe_callTy (call_dictT hc) hg hm hv pa hn hdb he hpl) (pe_callTy (call_dictP hc) hg hm hv pa hn hdb he hpl)).weak fun σ H Q ⟨ι, ρ, S, cf, d, S', e, k⟩ => ?_
  obtain ⟨y, S1, e1, e2⟩ := bind_ok e
  split at e2
  · split at e2
    · rename_i kvs hk
      cases e2
      refine .inl (RdE.run cf e1 fun v ι1 H1 st1 cf1 r1 => ?_)
      obtain ⟨a, vs, rfl, h1, q1⟩ := r1.tupD
      obtain ⟨ps, kws, rfl, h2, h3⟩ := pairs_rel q1 hk
      exact ⟨ι1, a, ps, kws, rfl, h1, h2, PostD.intro st1 cf1.wd (RKs.merge h3 .nil) rfl k⟩
    · cases e2
  · split at e2
    · rename_i kvs hk
      cases e2
      obtain ⟨xs, hx, hk⟩ := Option.bind_eq_some_iff.mp hk
      refine .inr (RdE.run cf e1 fun v ι1 H1 st1 cf1 r1 => ?_)
      obtain ⟨a, vs, rfl, h1, q1⟩ := cf1.wd.seq r1 hx
      obtain ⟨ps, kws, rfl, h2, h3⟩ := pairs_rel q1 hk
      exact ⟨a, ps, kws, rfl, .inl h1, h2, PostD.intro st1 cf1.wd (RKs.merge h3 .nil) rfl k⟩
    · cases e2
end
/-! ### calls by values alone -/
/-- what is told, as a value -/
def valP (d : D) (S : Sto) : Option P := match d with
  | .p x => some x
  | .ref n => match S[n]? with
    | some (.lst xs) => some (.ro xs)
    | some (.dic xs) => some (.dic xs)
    | _ => none
def callP (run : Run) (i : Nat) (xs : List P) : Option P := match run i (xs.map D.p) [] with
  | .ok d S => valP d S
  | _ => none
def cCallP (run : Run) (i : Nat) (ca : CA) : CE := fun ρ S => (ca ρ S).bind fun ds S1 => match (allP ds).bind (callP run i) with
  | some x => .ok (.p x) S1
  | none => .no
theorem allP_map : ∀ {ds : List D} {xs : List P}, allP ds = some xs → ds = xs.map D.p
  | [], _, e => by cases e; rfl
  | .p x :: r, ys, e => by
    unfold allP at e
    split at e
    · rename_i zs h
      cases e
      rw [allP_map h]; rfl
    · cases e
  | .ref _ :: _, _, e => by cases e
/-- nothing of the store is known -/
def Lk.bare (ι : Lk) : Lk := ⟨[], ι.hid ++ ι.ix.filterMap id⟩
theorem bare_has {ι : Lk} {a : Addr} : ι.bare.has a ↔ ι.has a := by
  unfold Lk.has Lk.bare
  constructor
  · rintro (h | h)
    · cases h
    · rcases List.mem_append.mp h with q | q
      · exact .inr q
      · obtain ⟨x, hx, e⟩ := List.mem_filterMap.mp q
        have e : x = some a := e
        exact .inl (e ▸ hx)
  · rintro (h | h)
    · exact .inr (List.mem_append_right _ (List.mem_filterMap.mpr ⟨_, h, rfl⟩))
    · exact .inr (List.mem_append_left _ h)
section
variable {K : PySem.W.Frag} {ι ι' : Lk} {H H' : Hp} {S S' : Sto}
theorem Wd.bare (wd : Wd K ι H S) : Wd K ι.bare H [] := by
  refine ⟨rfl, fun n m a h => by simp [Lk.bare] at h, fun n o h => by simp at h, fun a ha => ⟨?_, fun z => by cases z⟩⟩
  rcases bare_has.mp (.inr ha) with q | q
  · exact wd.some_of q
  · exact (wd.hd a q).1
theorem Step.bare (st : Step ι.bare H ι' H') : Step ι H ι H' := ⟨rfl, Nat.le_refl _, fun _ _ h => .inl h, fun _ h => .inl h, fun a o h _ => st.keep a o h (fun z => by cases z), st.there⟩
theorem Step.bareHas (st : Step ι.bare H ι' H') {a : Addr} (h : ι.has a) : a ∈ ι'.hid := by
  rw [st.hid]
  exact (bare_has.mpr h).elim (fun q => by cases q) id
theorem Wd.backP (wd : Wd K ι H S) (st : Step ι.bare H ι' H') : Wd K ι H' S := wd.same st.bare fun a ha => by
  have h := wd.some_of ha
  cases e : H a with
  | none => exact absurd e h
  | some o => exact st.keep a o e fun z => by cases z
theorem val_ok {d : D} {v : V} {x : P} (st : Step ι.bare H ι' H') (wd : Wd K ι' H' S') (r : RD K ι' H' v d) (e : valP d S' = some x) : RD K ι H' v (.p x) := by
  have up : ∀ a, ι.has a → ι'.has a := fun a h => .inr (st.bareHas h)
  cases d with
  | p y =>
    cases e
    cases r with
    | p r => exact .p (r.has up)
  | ref n =>
    simp only [valP] at e
    split at e
    · rename_i xs hx
      cases e
      obtain ⟨a, vs, rfl, hix, h1, q⟩ := wd.lst r hx
      exact .p (.ro (.inl h1) (fun z => (wd.hd a (st.bareHas z)).2 (List.mem_of_getElem? hix)) (q.has up))
    · rename_i xs hx
      cases e
      obtain ⟨a, vs, rfl, hix, h1, q⟩ := wd.dict r hx
      exact .p (.dic (.of h1) (fun z => (wd.hd a (st.bareHas z)).2 (List.mem_of_getElem? hix)) (q.has up))
    · cases e
theorem RDs.bare : ∀ {vs : List V} {xs : List P}, RDs K ι H vs (xs.map D.p) → RDs K ι.bare H vs (xs.map D.p)
  | _, [], .nil => .nil
  | _, x :: r, .cons (.p h) t => .cons (.p (h.has fun a q => bare_has.mp q)) (RDs.bare t)
end
section
variable {X : Cx} {T : List Fd} {k : Nat} {x : Str} {p pos : Pos} {e : Expr} {es : List Expr} {ca : CA}
theorem re_callP (C : Ctx X T k) (i : Nat) {fd : Fd} (hi : T[i]? = some fd) (hx : fd.name = x) (hg : Gl X x) (ha : PA X (e :: es) (RdA X.K ca)) (hdb : (x == ("__debug__" : Str)) = false := by decide) (he : starEach (e :: es) X.env = (false, eval e X.env) :: starEach es X.env := by rfl) (hpl : (backTo pos (starEach es X.env)).any (·.1) = false := by rfl) :
    PE X (.Call (.Name x p) (e :: es) [] pos) (RdE X.K (cCallP (runT T k) i ca)) := by
  obtain ⟨f, d, ps, h1, h2, h3, h4⟩ := C.all i fd hi
  rw [hx] at h1
  refine (pe_call h4 C.room hg h1 h2 h3 .nil pass0 ha hdb he hpl).weak fun σ H Q ⟨ι, ρ, S, cf, d, S', e, k'⟩ => ?_
  obtain ⟨ds, S1, e1, e2⟩ := bind_ok e
  split at e2
  · rename_i y hy
    cases e2
    obtain ⟨xs, hxs, hc⟩ := Option.bind_eq_some_iff.mp hy
    have := allP_map hxs
    subst this
    refine RdA.run cf e1 fun vs ι1 H1 st1 cf1 r1 => ?_
    unfold callP at hc
    split at hc
    · rename_i d2 S2 hr
      refine ⟨ι1.bare, [], xs.map D.p, cf1.wd.bare, by rw [List.append_nil]; exact RDs.bare r1, d2, S2, hr, fun v ι' H' st wd r => ?_⟩
      exact k' v ι1 H' (st1.trans st.bare) (cf1.wd.backP st) (val_ok st wd r hc)
    · cases hc
  · cases e2
end
end Cw
set_option Elab.async false
set_option linter.all false
set_option maxRecDepth 100000
set_option maxHeartbeats 4000000
/-! Cw25: sorted of texts. -/
namespace Cw
open PySem PySem.Spec PyProof.Rows L2

def leS (a b : Str) : Prop := ltCps b.cps.toList a.cps.toList = false
theorem leS_iff {a b : Str} : leS a b ↔ a.cps.toList ≤ b.cps.toList := by
  unfold leS
  rw [ltCps_eq, decide_eq_false_iff_not]; rfl
theorem leS_trans {a b c : Str} (h1 : leS a b) (h2 : leS b c) : leS a c := by
  rw [leS_iff] at *
  exact List.le_trans h1 h2
theorem leS_total (a b : Str) : leS a b ∨ leS b a := by
  rw [leS_iff, leS_iff]
  exact List.le_total _ _
theorem leS_anti {a b : Str} (h1 : leS a b) (h2 : leS b a) : a = b := by
  rw [leS_iff] at *
  have : a.cps.toList = b.cps.toList := List.le_antisymm h1 h2
  cases a; cases b
  simp only [Str.mk.injEq]
  exact Array.toList_inj.mp this
def insS (x : Str) : List Str → List Str
  | [] => [x]
  | y :: r => if ltCps y.cps.toList x.cps.toList then y :: insS x r else x :: y :: r
def sortStr (xs : List Str) : List Str := xs.foldr insS []
theorem insS_perm (x : Str) : ∀ l, (insS x l).Perm (x :: l)
  | [] => .refl _
  | y :: r => by
    unfold insS
    split
    · exact ((insS_perm x r).cons y).trans (.swap ..)
    · exact .refl _
theorem insS_sorted (x : Str) : ∀ l, l.Pairwise leS → (insS x l).Pairwise leS
  | [], _ => by simp [insS]
  | y :: r, h => by
    rw [List.pairwise_cons] at h
    unfold insS
    split
    · rename_i hl
      rw [List.pairwise_cons]
      refine ⟨fun z hz => ?_, insS_sorted x r h.2⟩
      rcases List.mem_cons.mp ((insS_perm x r).mem_iff.mp hz) with rfl | q
      · rcases leS_total z y with q | q
        · unfold leS at q; rw [hl] at q; cases q
        · exact q
      · exact h.1 z q
    · rename_i hl
      have hx : leS x y := by unfold leS; exact Bool.not_eq_true _ ▸ hl
      rw [List.pairwise_cons, List.pairwise_cons]
      exact ⟨fun z hz => (List.mem_cons.mp hz).elim (fun e => e ▸ hx) fun q => leS_trans hx (h.1 z q), h⟩
theorem sortStr_perm : ∀ xs, (sortStr xs).Perm xs
  | [] => .refl _
  | x :: r => (insS_perm x _).trans ((sortStr_perm r).cons x)
theorem sortStr_sorted : ∀ xs, (sortStr xs).Pairwise leS
  | [] => .nil
  | x :: r => insS_sorted x _ (sortStr_sorted r)
theorem rising_pw : ∀ (r : List Str) (x : Str), risingS x r = true → (x :: r).Pairwise leS
  | [], x, _ => by simp
  | y :: r, x, h => by
    unfold risingS at h
    rw [Bool.and_eq_true, Bool.not_eq_true'] at h
    have ih := rising_pw r y h.2
    have hx : leS x y := h.1
    rw [List.pairwise_cons]
    refine ⟨fun z hz => ?_, ih⟩
    rcases List.mem_cons.mp hz with rfl | q
    · exact hx
    · exact leS_trans hx ((List.pairwise_cons.mp ih).1 z q)
theorem sorted_uniq {xs ys : List Str} (hp : ys.Perm xs) (hs : sortedS ys = true) : ys = sortStr xs := by
  have h1 : ys.Pairwise leS := by
    cases ys with
    | nil => exact .nil
    | cons y r => exact rising_pw r y hs
  exact List.Perm.eq_of_pairwise (fun a b _ _ h h' => leS_anti h h') h1 (sortStr_sorted xs) (hp.trans (sortStr_perm xs).symm)
/-- sorted(xs), texts -/
def nSortS (c : CE) : CN := fun ρ S => (c ρ S).bind fun d S1 => match (seqA d S1).bind strsP with
  | some ys => if ys.length < 64 then .ok ((sortStr ys).map .str) S1 else .no
  | none => .no
theorem RPs.strs_ok {K : PySem.W.Frag} {ι : Lk} {H : Hp} : ∀ {vs : List V} {xs : List P} {ys : List Str}, RPs K ι H vs xs → strsP xs = some ys → ∀ y ∈ ys, PyData.strOk y = true
  | _, _, _, .nil, e => by cases e; intro y hy; cases hy
  | _, _, _, .cons r t, e => by
    cases r with
    | str ho =>
      simp only [strsP, Option.map_eq_some_iff] at e
      obtain ⟨zs, h, rfl⟩ := e
      intro y hy
      rcases List.mem_cons.mp hy with rfl | q
      · exact ho
      · exact t.strs_ok h y q
    | _ => cases e
theorem RPs.of_strs {K : PySem.W.Frag} {ι : Lk} {H : Hp} : ∀ {ys : List Str}, (∀ y ∈ ys, PyData.strOk y = true) → RPs K ι H (ys.map V.str) (ys.map P.str)
  | [], _ => .nil
  | y :: r, h => .cons (.str (h y List.mem_cons_self)) (RPs.of_strs fun z hz => h z (List.mem_cons_of_mem _ hz))
section
variable {X : Cx} {e : Expr} {ca : CE} {p pos : Pos} {x : Str}
theorem rn_sortS (hg : Gl X x) (hm : X.mg x = none) (hv : bootBuiltins x = some (.builtin "sorted")) (ha : PE X e (RdE X.K ca)) (hn : x ≠ "__name__" := by decide) (hdb : (x == ("__debug__" : Str)) = false := by decide)
    (he : starEach (e :: []) X.env = (false, eval e X.env) :: starEach [] X.env := by rfl) (hpl : (backTo pos (starEach [] X.env)).any (·.1) = false := by rfl) : PE X (.Call (.Name x p) [e] [] pos) (RdN X.K (nSortS ca)) :=
  (pe_callB cr_sortedS hg hm hv (pa_cons ha pa_nil he) hn hdb he hpl).weak fun σ H Q ⟨ι, ρ, S, cf, d, S', e, k⟩ => by
    obtain ⟨y, S1, e1, e2⟩ := bind_ok e
    split at e2
    · rename_i ys hy
      split at e2
      · rename_i hl
        cases e2
        obtain ⟨xs, hx, hs⟩ := Option.bind_eq_some_iff.mp hy
        refine RdE.run cf e1 fun v ι1 H1 st1 cf1 r1 => ?_
        obtain ⟨a, us, rfl, h, q⟩ := cf1.wd.seqA r1 hx
        have hu := q.strs' hs
        subst hu
        refine ⟨a, ys, rfl, h, hl, fun zs p hp hz hH => ?_⟩
        have := sorted_uniq hp hz
        subst this
        have ok := q.strs_ok hs
        exact PostN.intro st1 cf1.wd (RPs.of_strs fun z hz => ok z ((sortStr_perm ys).mem_iff.mp hz)) rfl k p hH
      · cases e2
    · cases e2
theorem bt_sorted : bootBuiltins "sorted" = some (.builtin "sorted") := by decide +kernel
end
end Cw
set_option Elab.async false
set_option linter.all false
set_option maxRecDepth 100000
set_option maxHeartbeats 4000000
/-! Cw26: a call stands on its own small store: what its arguments name, and nothing else. -/
namespace Cw
open PySem PySem.Spec PyProof.Rows L2

def refsOf : List D → List Nat
  | [] => []
  | .p _ :: r => refsOf r
  | .ref n :: r => n :: (refsOf r).filter fun m => decide (m ≠ n)
def numOf (ns : List Nat) : D → D
  | .p x => .p x
  | .ref n => .ref (ns.idxOf n)
def getsOf (S : Sto) : List Nat → Option Sto
  | [] => some []
  | n :: r => match S[n]?, getsOf S r with
    | some o, some os => some (o :: os)
    | _, _ => none
def isGone : Ob → Bool
  | .gone => true
  | _ => false
def putsOf : List Nat → Sto → Sto → Option Sto
  | [], _, S => some S
  | n :: r, o :: os, S => if isGone o then none else putsOf r os (S.set n o)
  | _ :: _, [], _ => none
def backD (fz : Bool) (ns : List Nat) (d : D) (S2 S' : Sto) : R D := match d with
  | .p x => .ok (.p x) S'
  | .ref m => match ns[m]? with
    | some n => .ok (.ref n) S'
    | none => match S2[m]? with
      | some (.lst xs) => if fz then .ok (.p (.ro xs)) S' else .ok (.ref S'.length) (S' ++ [.lst xs])
      | some (.dic xs) => if fz then .ok (.p (.dic xs)) S' else .ok (.ref S'.length) (S' ++ [.dic xs])
      | _ => .no
def callV (fz : Bool) (run : Run) (i : Nat) (ds : List D) (S : Sto) : R D := match getsOf S (refsOf ds) with
  | some S0 => match run i (ds.map (numOf (refsOf ds))) S0 with
    | .ok d S2 => match putsOf (refsOf ds) S2 S with
      | some S' => backD fz (refsOf ds) d S2 S'
      | none => .no
    | _ => .no
  | none => .no
def cCallV (fz : Bool) (run : Run) (i : Nat) (ca : CA) : CE := fun ρ S => (ca ρ S).bind fun ds S1 => callV fz run i ds S1

theorem refs_nd : ∀ ds, (refsOf ds).Nodup
  | [] => .nil
  | .p _ :: r => refs_nd r
  | .ref n :: r => by
    unfold refsOf
    rw [List.nodup_cons]
    exact ⟨by simp, (refs_nd r).filter _⟩
theorem refs_mem {n : Nat} : ∀ {ds : List D}, D.ref n ∈ ds → n ∈ refsOf ds
  | .p x :: r, h => by
    rcases List.mem_cons.mp h with e | q
    · cases e
    · exact refs_mem (ds := r) q
  | .ref m :: r, h => by
    unfold refsOf
    rcases List.mem_cons.mp h with e | q
    · cases e; exact List.mem_cons_self
    · by_cases e : n = m
      · subst e; exact List.mem_cons_self
      · exact List.mem_cons_of_mem _ (List.mem_filter.mpr ⟨refs_mem q, by simpa using e⟩)
theorem gets_len {S S0 : Sto} : ∀ {ns : List Nat}, getsOf S ns = some S0 → S0.length = ns.length := by
  intro ns
  induction ns generalizing S0 with
  | nil => intro h; cases h; rfl
  | cons n r ih =>
    intro h
    unfold getsOf at h
    split at h
    · rename_i o os h1 h2
      cases h
      rw [List.length_cons, List.length_cons, ih h2]
    · cases h
theorem gets_at {S S0 : Sto} : ∀ {ns : List Nat} {j : Nat} {n : Nat}, getsOf S ns = some S0 → ns[j]? = some n → S0[j]? = S[n]? ∧ n < S.length := by
  intro ns
  induction ns generalizing S0 with
  | nil => intro j n _ h; simp at h
  | cons m r ih =>
    intro j n h hj
    unfold getsOf at h
    split at h
    · rename_i o os h1 h2
      cases h
      cases j with
      | zero =>
        simp at hj
        subst hj
        exact ⟨by rw [h1]; rfl, get_lt h1⟩
      | succ j =>
        simp at hj
        have := ih h2 hj
        exact ⟨by simpa using this.1, this.2⟩
    · cases h
/-- what stands behind the call -/
theorem puts_len {S' : Sto} : ∀ {ns : List Nat} {S2 S : Sto}, putsOf ns S2 S = some S' → S'.length = S.length := by
  intro ns
  induction ns with
  | nil => intro S2 S h; cases h; rfl
  | cons n r ih =>
    intro S2 S h
    cases S2 with
    | nil => cases h
    | cons o os =>
      unfold putsOf at h
      split at h
      · cases h
      · rw [ih h, List.length_set]
theorem puts_out {S' : Sto} {n : Nat} : ∀ {ns : List Nat} {S2 S : Sto}, putsOf ns S2 S = some S' → n ∉ ns → S'[n]? = S[n]? := by
  intro ns
  induction ns with
  | nil => intro S2 S h _; cases h; rfl
  | cons m r ih =>
    intro S2 S h hn
    cases S2 with
    | nil => cases h
    | cons o os =>
      unfold putsOf at h
      split at h
      · cases h
      · rw [List.mem_cons, not_or] at hn
        rw [ih h hn.2, List.getElem?_set_ne (Ne.symm hn.1)]
theorem puts_in {S' : Sto} {n : Nat} : ∀ {ns : List Nat} {S2 S : Sto} {j : Nat}, putsOf ns S2 S = some S' → ns.Nodup → ns[j]? = some n → n < S.length → ∃ o, S2[j]? = some o ∧ isGone o = false ∧ S'[n]? = some o := by
  intro ns
  induction ns with
  | nil => intro S2 S j _ _ h; simp at h
  | cons m r ih =>
    intro S2 S j h nd hj hl
    cases S2 with
    | nil => cases h
    | cons o os =>
      unfold putsOf at h
      split at h
      · cases h
      · rename_i hg
        rw [List.nodup_cons] at nd
        cases j with
        | zero =>
          simp at hj
          subst hj
          refine ⟨o, rfl, by simpa using hg, ?_⟩
          rw [puts_out h nd.1, List.getElem?_set_self hl]
        | succ j =>
          simp at hj
          obtain ⟨o', h1, h2, h3⟩ := ih h nd.2 hj (by rw [List.length_set]; exact hl)
          exact ⟨o', by simpa using h1, h2, h3⟩
section
variable {K : PySem.W.Frag} {ι ι' : Lk} {H H' : Hp} {S S' S0 S2 : Sto}
/-- the callee's own world -/
def Lk.small (ι : Lk) (ns : List Nat) : Lk := ⟨ns.map fun n => (ι.ix[n]?).getD none, ι.hid ++ ((List.range ι.ix.length).filter fun n => decide (n ∉ ns)).filterMap fun n => (ι.ix[n]?).getD none⟩
theorem small_at {ns : List Nat} {j n : Nat} (hj : ns[j]? = some n) (hn : n < ι.ix.length) : (ι.small ns).ix[j]? = ι.ix[n]? := by
  show (ns.map fun n => (ι.ix[n]?).getD none)[j]? = _
  rw [List.getElem?_map, hj, List.getElem?_eq_getElem hn]
  simp [List.getElem?_eq_getElem hn]
theorem small_hid {ns : List Nat} {a : Addr} : a ∈ (ι.small ns).hid ↔ a ∈ ι.hid ∨ ∃ n, n ∉ ns ∧ ι.ix[n]? = some (some a) := by
  show a ∈ ι.hid ++ _ ↔ _
  rw [List.mem_append, List.mem_filterMap]
  refine or_congr Iff.rfl ⟨fun ⟨n, hn, e⟩ => ?_, fun ⟨n, hn, e⟩ => ?_⟩
  · rw [List.mem_filter, List.mem_range, decide_eq_true_iff] at hn
    refine ⟨n, hn.2, ?_⟩
    rw [List.getElem?_eq_getElem hn.1] at e ⊢
    exact congrArg some e
  · refine ⟨n, ?_, by rw [e]; rfl⟩
    rw [List.mem_filter, List.mem_range, decide_eq_true_iff]
    exact ⟨lt_of_get e, hn⟩
theorem small_ix {ns : List Nat} {a : Addr} (h : some a ∈ (ι.small ns).ix) : ∃ (j n : Nat), ns[j]? = some n ∧ ι.ix[n]? = some (some a) := by
  obtain ⟨n, hn, e⟩ := List.mem_map.mp h
  obtain ⟨j, hj⟩ := List.mem_iff_getElem?.mp hn
  refine ⟨j, n, hj, ?_⟩
  cases h : ι.ix[n]? with
  | none => rw [h] at e; cases e
  | some o => rw [h] at e; exact congrArg some e
theorem small_has {ns : List Nat} {a : Addr} : (ι.small ns).has a ↔ ι.has a := by
  constructor
  · rintro (h | h)
    · obtain ⟨j, n, _, e⟩ := small_ix h
      exact .inl (List.mem_of_getElem? e)
    · rcases small_hid.mp h with q | ⟨n, _, e⟩
      · exact .inr q
      · exact .inl (List.mem_of_getElem? e)
  · rintro (h | h)
    · obtain ⟨n, e⟩ := List.mem_iff_getElem?.mp h
      by_cases hn : n ∈ ns
      · obtain ⟨j, hj⟩ := List.mem_iff_getElem?.mp hn
        refine .inl (List.mem_of_getElem? (i := j) ?_)
        rw [small_at hj (lt_of_get e)]; exact e
      · exact .inr (small_hid.mpr (.inr ⟨n, hn, e⟩))
    · exact .inr (small_hid.mpr (.inl h))
theorem Wd.small (wd : Wd K ι H S) {ns : List Nat} (nd : ns.Nodup) (hg : getsOf S ns = some S0) : Wd K (ι.small ns) H S0 := by
  have hlt : ∀ {j n : Nat}, ns[j]? = some n → n < ι.ix.length := fun hj => by rw [wd.len]; exact (gets_at hg hj).2
  refine ⟨?_, fun i j a hi hj => ?_, fun j o e => ?_, fun a ha => ⟨?_, fun z => ?_⟩⟩
  · show (ns.map _).length = _
    rw [List.length_map, gets_len hg]
  · have hi' := lt_of_get hi
    have hj' := lt_of_get hj
    have hi' : i < ns.length := by simpa [Lk.small] using hi'
    have hj' : j < ns.length := by simpa [Lk.small] using hj'
    have e1 := List.getElem?_eq_getElem hi'
    have e2 := List.getElem?_eq_getElem hj'
    rw [small_at e1 (hlt e1)] at hi
    rw [small_at e2 (hlt e2)] at hj
    have := wd.nd _ _ a hi hj
    exact (List.getElem_inj nd).mp this
  · have hj := lt_of_get e
    rw [gets_len hg] at hj
    have e1 := List.getElem?_eq_getElem hj
    rw [(gets_at hg e1).1] at e
    rw [small_at e1 (hlt e1)]
    exact (wd.ob _ o e).has fun a h => small_has.mp h
  · rcases small_hid.mp ha with q | ⟨n, _, e⟩
    · exact (wd.hd a q).1
    · exact wd.some_of (List.mem_of_getElem? e)
  · obtain ⟨j, n, hj, e⟩ := small_ix z
    rcases small_hid.mp ha with q | ⟨m, hm, e'⟩
    · exact (wd.hd a q).2 (List.mem_of_getElem? e)
    · have := wd.nd _ _ a e e'
      subst this
      exact hm (List.mem_of_getElem? hj)
theorem RDs.small {ns : List Nat} (wd : Wd K ι H S) : ∀ {vs : List V} {ds : List D}, (∀ n, D.ref n ∈ ds → n ∈ ns ∧ n < S.length) → RDs K ι H vs ds → RDs K (ι.small ns) H vs (ds.map (numOf ns))
  | _, _, _, .nil => .nil
  | _, _, h, .cons r t => by
    refine .cons ?_ (RDs.small wd (fun n hn => h n (List.mem_cons_of_mem _ hn)) t)
    cases r with
    | p r => exact .p (r.has fun a q => small_has.mp q)
    | ref e hv =>
      rename_i n o
      obtain ⟨hn, hl⟩ := h n List.mem_cons_self
      refine .ref (n := ns.idxOf n) (o := o) ?_ hv
      rw [small_at (n := n) ?_ (lt_of_get e)]
      · exact e
      · rw [List.getElem?_eq_getElem (List.idxOf_lt_length_of_mem hn), List.getElem_idxOf]
/-- behind the call -/
theorem small_idx (wd : Wd K ι H S) {ns : List Nat} (nd : ns.Nodup) (hg : getsOf S ns = some S0) (st : Step (ι.small ns) H ι' H') (wd' : Wd K ι' H' S2) (hp : putsOf ns S2 S = some S') (j n : Nat) (hj : ns[j]? = some n) : ι'.ix[j]? = ι.ix[n]? := by
  have hl := (gets_at hg hj).2
  have e1 : ι.ix[n]? = some (ι.ix[n]'(by rw [wd.len]; exact hl)) := List.getElem?_eq_getElem _
  obtain ⟨o, h1, h2, h3⟩ := puts_in hp nd hj hl
  rcases st.old j _ (by rw [small_at hj (by rw [wd.len]; exact hl), e1]) with q | q
  · rw [q, e1]
  · have := wd'.ob j o h1
    rw [q] at this
    cases this
    cases h2
theorem small_up {ns : List Nat} (st : Step (ι.small ns) H ι' H') (hix : ∀ (j n : Nat), ns[j]? = some n → ι'.ix[j]? = ι.ix[n]?) (a : Addr) (h : ι.has a) : ι'.has a := by
  rcases small_has (ns := ns) |>.mpr h with q | q
  · obtain ⟨j, n, hj, e⟩ := small_ix q
    exact .inl (List.mem_of_getElem? (i := j) (by rw [hix j n hj]; exact e))
  · exact .inr (by rw [st.hid]; exact q)
theorem small_st {ns : List Nat} (st : Step (ι.small ns) H ι' H') : Step ι H ι H' :=
  ⟨rfl, Nat.le_refl _, fun _ _ h => .inl h, fun _ h => .inl h, fun a o h hn => st.keep a o h (fun q => by obtain ⟨j, n, _, e⟩ := small_ix q; exact hn (List.mem_of_getElem? e)), st.there⟩
theorem small_obs (wd : Wd K ι H S) {ns : List Nat} (nd : ns.Nodup) (hg : getsOf S ns = some S0) (st : Step (ι.small ns) H ι' H') (wd' : Wd K ι' H' S2) (hp : putsOf ns S2 S = some S') {κ : Lk} (sH : StepH ι H κ H') (up : ∀ a, κ.has a → ι'.has a)
    (n : Nat) (o : Ob) (e : S'[n]? = some o) : ROb K κ H' ι.ix[n]? o := by
  by_cases hn : n ∈ ns
  · obtain ⟨j, hj⟩ := List.mem_iff_getElem?.mp hn
    obtain ⟨o', h1, h2, h3⟩ := puts_in hp nd hj (gets_at hg hj).2
    rw [e] at h3
    cases h3
    have := wd'.ob j o h1
    rw [small_idx wd nd hg st wd' hp j n hj] at this
    exact this.has up
  · rw [puts_out hp hn] at e
    have q := wd.ob n o e
    have hk : ∀ a u, ι.ix[n]? = some (some a) → H a = some u → H' a = some u := fun a u hz hu => st.keep a u hu fun z => by
      obtain ⟨j, m, hj, e2⟩ := small_ix z
      have := wd.nd _ _ a e2 hz
      subst this
      exact hn (List.mem_of_getElem? hj)
    generalize hz : ι.ix[n]? = z at q hk ⊢
    cases q with
    | lst e1 r => exact .lst (hk _ _ rfl e1) (r.monoH sH)
    | dic e1 r => exact .dic (hk _ _ rfl e1) (r.monoH sH)
    | gone => exact .gone
theorem back_ok (fz : Bool) (wd : Wd K ι H S) {ns : List Nat} {d d' : D} {v : V} {S3 : Sto} (nd : ns.Nodup) (hg : getsOf S ns = some S0) (st : Step (ι.small ns) H ι' H') (wd' : Wd K ι' H' S2) (hp : putsOf ns S2 S = some S') (r : RD K ι' H' v d) (e : backD fz ns d S2 S' = .ok d' S3) :
    ∃ κ, Step ι H κ H' ∧ Wd K κ H' S3 ∧ RD K κ H' v d' := by
  have hix := small_idx wd nd hg st wd' hp
  have hup := small_up st hix
  have sS := small_st st
  have hlen := puts_len hp
  have wι : Wd K ι H' S' := ⟨by rw [hlen]; exact wd.len, wd.nd, small_obs wd nd hg st wd' hp sS.h hup, fun a ha => ⟨fun z => (wd.hd a ha).1 (st.there a z), (wd.hd a ha).2⟩⟩
  unfold backD at e
  split at e
  · cases e
    cases r with
    | p r => exact ⟨ι, sS, wι, .p (r.has hup)⟩
  · rename_i m
    split at e
    · rename_i n hn
      cases e
      cases r with
      | ref h1 h2 => exact ⟨ι, sS, wι, .ref (by rw [← hix m n hn]; exact h1) h2⟩
    · rename_i hm
      have fresh : ∀ {a : Addr}, ι'.ix[m]? = some (some a) → ¬ ι.has a := fun {a} h z => by
        rcases small_has (ns := ns) |>.mpr z with q | q
        · obtain ⟨j, n, hj, e⟩ := small_ix q
          have e2 := hix j n hj
          rw [e] at e2
          have := wd'.nd _ _ a e2 h
          subst this
          rw [hm] at hj
          cases hj
        · exact (wd'.hd a (by rw [st.hid]; exact q)).2 (List.mem_of_getElem? h)
      have newer : ∀ {a : Addr}, ι'.ix[m]? = some (some a) → H a = none := fun {a} h => by
        rcases st.new a (List.mem_of_getElem? h) with q | q
        · obtain ⟨j, n, hj, e⟩ := small_ix q
          exact absurd (.inl (List.mem_of_getElem? e)) (fresh h)
        · exact q
      have addW : ∀ {a : Addr} {o : Ob}, ι'.ix[m]? = some (some a) → ROb K ι' H' (some (some a)) o → Step ι H (ι.add a) H' ∧ Wd K (ι.add a) H' (S' ++ [o]) ∧ RD K (ι.add a) H' (.ref a) (.ref S'.length) := fun {a o} hx ho => by
        have hna := fresh hx
        have hup2 : ∀ b, (ι.add a).has b → ι'.has b := fun b hb => by
          rcases has_hide (has_add hb) with q | q
          · exact hup b q
          · rw [q]; exact .inl (List.mem_of_getElem? hx)
        have s2 : Step ι H (ι.add a) H' := by
          refine ⟨rfl, ?_, fun n o h => .inl (ix_old h), fun b hb => ?_, sS.keep, sS.there⟩
          · show _ ≤ (ι.ix ++ [some a]).length
            rw [List.length_append]; exact Nat.le_add_right _ _
          · rcases List.mem_append.mp hb with q | q
            · exact .inl q
            · have : b = a := by simpa using q
              subst this
              exact .inr (newer hx)
        have e0 : (ι.add a).ix[S'.length]? = some (some a) := by
          show (ι.ix ++ [some a])[S'.length]? = _
          rw [← wι.len, List.getElem?_append_right (Nat.le_refl _), Nat.sub_self]; rfl
        refine ⟨s2, ⟨?_, fun i j b hi hj => ?_, fun i o' h => ?_, fun b hb => ⟨(wι.hd b hb).1, fun z => ?_⟩⟩, .ref e0 fun b hb => by cases hb; rfl⟩
        · show (ι.ix ++ [some a]).length = (S' ++ [o]).length
          rw [List.length_append, List.length_append, wι.len]
          rfl
        · rcases ix_new hi with q | ⟨q, e⟩ <;> rcases ix_new hj with z | ⟨z, e'⟩
          · exact wd.nd i j b q z
          · cases e'; exact absurd (.inl (List.mem_of_getElem? q)) hna
          · cases e; exact absurd (.inl (List.mem_of_getElem? z)) hna
          · omega
        · rcases Nat.lt_or_ge i S'.length with q | q
          · rw [List.getElem?_append_left q] at h
            have w := small_obs wd nd hg st wd' hp s2.h hup2 i o' h
            have e : (ι.add a).ix[i]? = ι.ix[i]? := by
              show (ι.ix ++ [some a])[i]? = _
              rw [List.getElem?_append_left (by rw [wι.len]; exact q)]
            rw [e]
            exact w
          · have hi := lt_of_get h
            rw [List.length_append, List.length_singleton] at hi
            have : i = S'.length := by omega
            subst this
            rw [List.getElem?_append_right (Nat.le_refl _), Nat.sub_self] at h
            cases h
            rw [e0]
            exact ho.has hup2
        · rcases List.mem_append.mp z with q | q
          · exact (wι.hd b hb).2 q
          · have : b = a := by simpa using q
            subst this
            exact hna (.inr hb)
      split at e
      · rename_i xs hx
        obtain ⟨a, vs, rfl, h1, h2, q⟩ := wd'.lst r hx
        split at e
        · cases e
          exact ⟨ι, sS, wι, .p (.ro (.inl h2) (fresh h1) (q.has hup))⟩
        · cases e
          exact ⟨_, addW h1 (.lst h2 q)⟩
      · rename_i xs hx
        obtain ⟨a, vs, rfl, h1, h2, q⟩ := wd'.dict r hx
        split at e
        · cases e
          exact ⟨ι, sS, wι, .p (.dic (.of h2) (fresh h1) (q.has hup))⟩
        · cases e
          exact ⟨_, addW h1 (.dic h2 q)⟩
      · cases e
end
section
variable {X : Cx} {T : List Fd} {k : Nat} {x : Str} {p pos : Pos} {e : Expr} {es : List Expr} {ca : CA}
theorem re_callV (fz : Bool) (C : Ctx X T k) (i : Nat) {fd : Fd} (hi : T[i]? = some fd) (hx : fd.name = x) (hg : Gl X x) (ha : PA X (e :: es) (RdA X.K ca)) (hdb : (x == ("__debug__" : Str)) = false := by decide) (he : starEach (e :: es) X.env = (false, eval e X.env) :: starEach es X.env := by rfl) (hpl : (backTo pos (starEach es X.env)).any (·.1) = false := by rfl) :
    PE X (.Call (.Name x p) (e :: es) [] pos) (RdE X.K (cCallV fz (runT T k) i ca)) := by
  obtain ⟨f, d, ps, h1, h2, h3, h4⟩ := C.all i fd hi
  rw [hx] at h1
  refine (pe_call h4 C.room hg h1 h2 h3 .nil pass0 ha hdb he hpl).weak fun σ H Q ⟨ι, ρ, S, cf, d, S', e, k'⟩ => ?_
  obtain ⟨ds, S1, e1, e2⟩ := bind_ok e
  unfold callV at e2
  split at e2
  · rename_i S0 hg
    split at e2
    · rename_i d2 S2 hr
      split at e2
      · rename_i S3 hp
        refine RdA.run cf e1 fun vs ι1 H1 st1 cf1 r1 => ?_
        have nd := refs_nd ds
        have rs := RDs.small (ns := refsOf ds) cf1.wd (fun n hn => ⟨refs_mem hn, by
          obtain ⟨j, hj⟩ := List.mem_iff_getElem?.mp (refs_mem hn)
          exact (gets_at hg hj).2⟩) r1
        refine ⟨ι1.small (refsOf ds), S0, ds.map (numOf (refsOf ds)), cf1.wd.small nd hg, by rw [List.append_nil]; exact rs, d2, S2, hr, fun v ι' H' st wd r => ?_⟩
        · obtain ⟨κ, s1, w1, r1'⟩ := back_ok fz cf1.wd nd hg st wd hp r e2
          exact k' v κ H' (st1.trans s1) w1 r1'
      · cases e2
    · cases e2
  · cases e2
end
end Cw
set_option Elab.async false
set_option linter.all false
set_option maxRecDepth 100000
set_option maxHeartbeats 4000000
/-! Cw27: reckoning with calls on small stores, dicts of pairs, enumerate, zip, sorted. -/
namespace Cw
open L2
open PySem hiding Run

@[simp] theorem xCallV (fz : Bool) (run : Run) (i : Nat) (ca : CA) (ρ : Ev) (S : Sto) : cCallV fz run i ca ρ S = (ca ρ S).bind fun ds S1 => callV fz run i ds S1 := id rfl
theorem refs_ps : ∀ xs : List P, refsOf (xs.map D.p) = []
  | [] => rfl
  | _ :: r => refs_ps r
theorem num_ps (ns : List Nat) : ∀ xs : List P, (xs.map D.p).map (numOf ns) = xs.map D.p
  | [] => rfl
  | _ :: r => by rw [List.map_cons, List.map_cons, num_ps ns r]; rfl
/-- a call by values alone -/
theorem callV0 (fz : Bool) {run : Run} {i : Nat} {xs : List P} {d : D} {S2 : Sto} (S : Sto) (h : run i (xs.map D.p) [] = .ok d S2) : callV fz run i (xs.map D.p) S = backD fz [] d S2 S := by
  unfold callV
  rw [refs_ps]
  simp only [getsOf, num_ps, h, putsOf]
theorem callV0p (fz : Bool) {run : Run} {i : Nat} {xs : List P} {x : P} {S2 : Sto} (S : Sto) (h : run i (xs.map D.p) [] = .ok (.p x) S2) : callV fz run i (xs.map D.p) S = .ok (.p x) S := callV0 fz S h
theorem callV0l {run : Run} {i m : Nat} {xs ys : List P} {S2 : Sto} (S : Sto) (h : run i (xs.map D.p) [] = .ok (.ref m) S2) (h2 : S2[m]? = some (.lst ys)) : callV true run i (xs.map D.p) S = .ok (.p (.ro ys)) S := by
  rw [callV0 true S h]; simp [backD, h2]
theorem callV0d {run : Run} {i m : Nat} {xs : List P} {ys : List (Key × P)} {S2 : Sto} (S : Sto) (h : run i (xs.map D.p) [] = .ok (.ref m) S2) (h2 : S2[m]? = some (.dic ys)) : callV true run i (xs.map D.p) S = .ok (.p (.dic ys)) S := by
  rw [callV0 true S h]; simp [backD, h2]
/-- one thing of the store -/
theorem callV1 (fz : Bool) {run : Run} {i n : Nat} {xs : List P} {S : Sto} {o o2 : Ob} {d : D} {S2 : Sto} (hS : S[n]? = some o) (h : run i (.ref 0 :: xs.map D.p) [o] = .ok d (o2 :: S2)) (hg : isGone o2 = false) :
    callV fz run i (.ref n :: xs.map D.p) S = backD fz [n] d (o2 :: S2) (S.set n o2) := by
  unfold callV
  have e : refsOf (.ref n :: xs.map D.p) = [n] := by unfold refsOf; rw [refs_ps]; rfl
  have e2 : (D.ref n :: xs.map D.p).map (numOf [n]) = .ref 0 :: xs.map D.p := by
    rw [List.map_cons, num_ps]; simp [numOf]
  rw [e, e2]
  simp only [getsOf, hS, h, putsOf, hg]
  rfl
theorem callV1p (fz : Bool) {run : Run} {i n : Nat} {xs : List P} {S : Sto} {o o2 : Ob} {x : P} {S2 : Sto} (hS : S[n]? = some o) (h : run i (.ref 0 :: xs.map D.p) [o] = .ok (.p x) (o2 :: S2)) (hg : isGone o2 = false) :
    callV fz run i (.ref n :: xs.map D.p) S = .ok (.p x) (S.set n o2) := callV1 fz hS h hg
theorem callV1l {run : Run} {i n m : Nat} {xs : List P} {S : Sto} {o o2 : Ob} {ys : List P} {S2 : Sto} (hS : S[n]? = some o) (h : run i (.ref 0 :: xs.map D.p) [o] = .ok (.ref (m + 1)) (o2 :: S2)) (h2 : S2[m]? = some (.lst ys)) (hg : isGone o2 = false) :
    callV true run i (.ref n :: xs.map D.p) S = .ok (.p (.ro ys)) (S.set n o2) := by
  rw [callV1 true hS h hg]; simp [backD, h2]
theorem callV1t {run : Run} {i n m : Nat} {xs : List P} {S : Sto} {o o2 : Ob} {ys : List P} {S2 : Sto} (hS : S[n]? = some o) (h : run i (.ref 0 :: xs.map D.p) [o] = .ok (.ref (m + 1)) (o2 :: S2)) (h2 : S2[m]? = some (.lst ys)) (hg : isGone o2 = false) :
    callV false run i (.ref n :: xs.map D.p) S = .ok (.ref S.length) (S.set n o2 ++ [.lst ys]) := by
  rw [callV1 false hS h hg]; simp [backD, h2]
@[simp] theorem xEnum (c : CE) (ρ : Ev) (S : Sto) : cEnum c ρ S = (c ρ S).bind fun d S1 => match seqXP d with | some (_, xs) => .ok (enumP xs, none) S1 | _ => .no := id rfl
@[simp] theorem xZip (a b : CE) (ρ : Ev) (S : Sto) : cZip a b ρ S = (a ρ S).bind fun x S1 => (b ρ S1).bind fun y S2 => match seqXP x, seqXP y with | some (t, xs), some (u, ys) => if t = u then .ok (zipP xs ys, none) S2 else .no | _, _ => .no := id rfl
@[simp] theorem xSeqT (xs : List P) : seqXP (.p (.tup xs)) = some (true, xs) := rfl
@[simp] theorem xSeqR (xs : List P) : seqXP (.p (.ro xs)) = some (false, xs) := rfl
@[simp] theorem xDPairsT (c : CE) (ρ : Ev) (S : Sto) : cDPairs c ρ S = (c ρ S).bind fun d S1 => match d with | .p (.tup xs) => (match pairsP xs with | some kvs => .ok (mergeP [] kvs) S1 | none => .no) | d => (match (seqL d S1).bind pairsP with | some kvs => .ok (mergeP [] kvs) S1 | none => .no) := id rfl
@[simp] theorem xSortS (c : CE) (ρ : Ev) (S : Sto) : nSortS c ρ S = (c ρ S).bind fun d S1 => match (seqA d S1).bind strsP with | some ys => if ys.length < 64 then .ok ((sortStr ys).map .str) S1 else .no | none => .no := id rfl
/-! ### a def of the table -/
/-- what is told, as a value: behind n things of the callers' -/
def toldN (n : Nat) (f : Fl) (S : Sto) : Option P := match f with
  | .nx _ => some .non
  | .rt (.p x) => some x
  | .rt (.ref m) => if m < n then none else match S[m]? with
    | some (.lst xs) => some (.ro xs)
    | some (.dic xs) => some (.dic xs)
    | _ => none
  | _ => none
theorem told_leave {n : Nat} {f : Fl} {S : Sto} {x : P} (h : toldN n f S = some x) (hn : n ≤ S.length) (ns : List Nat) (hns : ns.length = n) (S0 : Sto) : ∃ d S2, leave n (.ok f S) = .ok d S2 ∧ S2.take n = S.take n ∧ backD true ns d S2 S0 = .ok (.p x) S0 := by
  unfold toldN at h
  split at h
  · cases h; exact ⟨_, _, rfl, by rw [List.take_take, Nat.min_self], rfl⟩
  · cases h; exact ⟨_, _, rfl, by rw [List.take_take, Nat.min_self], rfl⟩
  · rename_i m
    split at h
    · cases h
    · rename_i hm
      have hlen : (S.take n).length = n := by rw [List.length_take]; omega
      have hno : ns[n]? = none := List.getElem?_eq_none (by omega)
      split at h
      · rename_i xs hx
        cases h
        refine ⟨.ref n, S.take n ++ [.lst xs], ?_, by rw [List.take_append_of_le_length (by omega), List.take_take, Nat.min_self], ?_⟩
        · rw [xleave_rt]; simp [tellD, hm, hx]
        · simp only [backD, hno]
          rw [List.getElem?_append_right (by omega), hlen, Nat.sub_self]; rfl
      · rename_i xs hx
        cases h
        refine ⟨.ref n, S.take n ++ [.dic xs], ?_, by rw [List.take_append_of_le_length (by omega), List.take_take, Nat.min_self], ?_⟩
        · rw [xleave_rt]; simp [tellD, hm, hx]
        · simp only [backD, hno]
          rw [List.getElem?_append_right (by omega), hlen, Nat.sub_self]; rfl
      · cases h
  · cases h
/-- a def that tells a value by values alone -/
def Tells (run : Run) (i : Nat) (xs : List P) (x : P) : Prop := ∀ S, callV true run i (xs.map D.p) S = .ok (.p x) S
theorem tells_of {T : List Fd} {k i : Nat} {fd : Fd} {xs : List P} {x : P} (h : T[i]? = some fd) (hl : xs.length = fd.ps.length)
    (hb : Nd (fd.B (runT T k) (startE fd.N.length (xs.map D.p)) []) fun f S' => toldN 0 f S' = some x) : Tells (runT T (k + 1)) i xs x := fun S => by
  obtain ⟨f, S', e, q⟩ := hb
  obtain ⟨d, S2, e2, _, e3⟩ := told_leave q (Nat.zero_le _) [] rfl S
  have er : runT T (k + 1) i (xs.map D.p) [] = .ok d S2 := by
    rw [runS h (by rw [List.length_map]; exact hl), e]; exact e2
  rw [callV0 true S er]
  have := e3
  cases d with
  | p y => exact this
  | ref m => simpa [backD] using this
/-- a def that draws from one thing of the store and tells a value -/
def Takes (ok : Ob → Prop) (run : Run) (i : Nat) (mk : D → List D) (Q : P → Prop) : Prop := ∀ (S : Sto) (n : Nat) (o : Ob), S[n]? = some o → ok o → ∃ x o', callV true run i (mk (.ref n)) S = .ok (.p x) (S.set n o') ∧ ok o' ∧ Q x
structure Mk1 (mk : D → List D) : Prop where
  refs : ∀ n, refsOf (mk (.ref n)) = [n]
  num : ∀ n, (mk (.ref n)).map (numOf [n]) = mk (.ref 0)
theorem callG {fz : Bool} {run : Run} {i : Nat} {ds ds0 : List D} {S S0 S2 S' : Sto} {d : D} {ns : List Nat} (hr : refsOf ds = ns) (hg : getsOf S ns = some S0) (hn : ds.map (numOf ns) = ds0) (e : run i ds0 S0 = .ok d S2) (hp : putsOf ns S2 S = some S') :
    callV fz run i ds S = backD fz ns d S2 S' := by
  unfold callV
  rw [hr, hg]
  simp only [hn, e, hp]
theorem takes_of {ok : Ob → Prop} {T : List Fd} {k i : Nat} {fd : Fd} {mk : D → List D} {Q : P → Prop} (hmk : Mk1 mk) (hok : ∀ o, ok o → isGone o = false) (h : T[i]? = some fd) (hl : (mk (.ref 0)).length = fd.ps.length)
    (hb : ∀ o, ok o → Nd (fd.B (runT T k) (startE fd.N.length (mk (.ref 0))) [o]) fun f S' => ∃ x o', toldN 1 f S' = some x ∧ S'[0]? = some o' ∧ ok o' ∧ Q x) : Takes ok (runT T (k + 1)) i mk Q := fun S n o hS ho => by
  obtain ⟨f, S', e, x, o', q, h0, ho', hx⟩ := hb o ho
  have hlen := get_lt h0
  obtain ⟨d, S2, e2, e4, e3⟩ := told_leave q (by omega) [n] rfl (S.set n o')
  have er : runT T (k + 1) i (mk (.ref 0)) [o] = .ok d S2 := by
    rw [runS h hl, e]; exact e2
  refine ⟨x, o', ?_, ho', hx⟩
  have hS2 : ∃ G, S2 = o' :: G := by
    cases S2 with
    | nil =>
      cases S' with
      | nil => cases h0
      | cons a r => simp at e4
    | cons a r =>
      cases S' with
      | nil => cases h0
      | cons b s =>
        simp at h0 e4
        exact ⟨r, by rw [e4, h0]⟩
  obtain ⟨G, rfl⟩ := hS2
  rw [callG (hmk.refs n) (S0 := [o]) (by simp [getsOf, hS]) (hmk.num n) er (S' := S.set n o') (by simp [putsOf, hok o' ho'])]
  exact e3
end Cw
set_option Elab.async false
set_option linter.all false
set_option maxRecDepth 100000
set_option maxHeartbeats 4000000
/-! Cw28: statement by statement. -/
namespace Cw
open L2
open PySem hiding Run

section
variable {A B : CS} {c : CE} {t : CT} {i : Nat} {d : D} {ρ : Ev} {S S' : Sto} {Q : Fl → Sto → Prop}
theorem asgE (e : c ρ S = .ok d S') (hk : Nd (B (ρ.set i (some d)) S') Q) : Nd (sSeq (sAsg c (gN i)) B ρ S) Q := by
  simp only [xSeq, xAsg, e, bind_okE, xgN]; exact hk
theorem asgN {J : D → Sto → Prop} (h : Nd (c ρ S) J) (hk : ∀ d S', J d S' → Nd (B (ρ.set i (some d)) S') Q) : Nd (sSeq (sAsg c (gN i)) B ρ S) Q := by
  obtain ⟨d, S', e, j⟩ := h
  exact asgE e (hk d S' j)
theorem asgG {g : CG} {ρ' : Ev} {S'' : Sto} (e : c ρ S = .ok d S') (e2 : g d ρ S' = .ok ρ' S'') (hk : Nd (B ρ' S'') Q) : Nd (sSeq (sAsg c g) B ρ S) Q := by
  simp only [xSeq, xAsg, e, bind_okE, e2]; exact hk
theorem dropE (e : c ρ S = .ok d S') (hk : Nd (B ρ S') Q) : Nd (sSeq (sDrop c) B ρ S) Q := by
  simp only [xSeq, xDrop, e, bind_okE]; exact hk
theorem retE (e : c ρ S = .ok d S') (q : Q (.rt d) S') : Nd (sRet c ρ S) Q := by
  simp only [xRet, e, bind_okE]; exact .ok q
theorem retN {J : D → Sto → Prop} (h : Nd (c ρ S) J) (hk : ∀ d S', J d S' → Q (.rt d) S') : Nd (sRet c ρ S) Q := by
  obtain ⟨d, S', e, j⟩ := h
  exact retE e (hk d S' j)
theorem ifT {A1 A2 : CS} (e : t ρ S = .ok true S') (h : Nd (A1 ρ S') Q) : Nd (sIf t A1 A2 ρ S) Q := by
  simp only [xSIf, e, bind_okE, if_true]; exact h
theorem ifF {A1 A2 : CS} (e : t ρ S = .ok false S') (h : Nd (A2 ρ S') Q) : Nd (sIf t A1 A2 ρ S) Q := by
  simp only [xSIf, e, bind_okE, Bool.false_eq_true, if_false]; exact h
/-- an if at the head of a block: its ways -/
theorem seqT {A1 A2 : CS} (e : t ρ S = .ok true S') (h : Nd (sSeq A1 B ρ S') Q) : Nd (sSeq (sIf t A1 A2) B ρ S) Q := by
  simp only [xSeq, xSIf, e, bind_okE, if_true] at h ⊢; exact h
theorem seqF {A1 A2 : CS} (e : t ρ S = .ok false S') (h : Nd (sSeq A2 B ρ S') Q) : Nd (sSeq (sIf t A1 A2) B ρ S) Q := by
  simp only [xSeq, xSIf, e, bind_okE, Bool.false_eq_true, if_false] at h ⊢; exact h
theorem seqNil (h : Nd (B ρ S) Q) : Nd (sSeq sNil B ρ S) Q := h
theorem seqRet (h : Nd (c ρ S) fun d S' => Q (.rt d) S') : Nd (sSeq (sRet c) B ρ S) Q := by
  obtain ⟨d, S', e, q⟩ := h
  simp only [xSeq, xRet, e, bind_okE]; exact .ok q
theorem seqRetE (e : c ρ S = .ok d S') (q : Q (.rt d) S') : Nd (sSeq (sRet c) B ρ S) Q := seqRet ⟨d, S', e, q⟩
theorem seqSeq {A1 A2 : CS} (h : Nd (sSeq A1 (sSeq A2 B) ρ S) Q) : Nd (sSeq (sSeq A1 A2) B ρ S) Q := by
  obtain ⟨f, S', e, q⟩ := h
  refine ⟨f, S', ?_, q⟩
  rw [← e]
  show ((A1 ρ S).bind _).bind _ = (A1 ρ S).bind _
  cases A1 ρ S with
  | ok a S => cases a <;> rfl
  | _ => rfl
/-- a loop at the head of a block -/
theorem forS {it : CI} {g : CG} {body : CS} {α : Type} {enc : α → P} {l : List α} (e : it ρ S = .ok (l.map enc, none) S') (I : List α → Ev → Sto → Prop) (h : I [] ρ S')
    (hs : ∀ pre x post ρ S, l = pre ++ x :: post → I pre ρ S → Nd (turnF g body (enc x) ρ S) fun f S' => (∃ ρ', f = .nx ρ' ∧ I (pre ++ [x]) ρ' S') ∨ ∃ d, f = .rt d ∧ Q (.rt d) S')
    (hk : ∀ ρ S, I l ρ S → Nd (B ρ S) Q) : Nd (sSeq (sFor it g body) B ρ S) Q := by
  simp only [xSeq, xFor, e, bind_okE]
  exact forE0 I h (fun pre x post ρ S e hI => (hs pre x post ρ S e hI).mono fun f S' q => q.imp_right fun ⟨d, e, q2⟩ => ⟨d, e, by subst e; exact .ok q2⟩) hk
theorem rngS {it : CI} {g : CG} {body : CS} {n : Nat} (e : it ρ S = .ok (rangeP 0 n, none) S') (I : Nat → Ev → Sto → Prop) (h : I 0 ρ S')
    (hs : ∀ j ρ S, j < n → I j ρ S → Nd (turnF g body (.int j) ρ S) fun f S' => (∃ ρ', f = .nx ρ' ∧ I (j + 1) ρ' S') ∨ ∃ d, f = .rt d ∧ Q (.rt d) S')
    (hk : ∀ ρ S, I n ρ S → Nd (B ρ S) Q) : Nd (sSeq (sFor it g body) B ρ S) Q := by
  simp only [xSeq, xFor, e, bind_okE]
  exact rangeE0 I h (fun j ρ S e hI => (hs j ρ S e hI).mono fun f S' q => q.imp_right fun ⟨d, e, q2⟩ => ⟨d, e, by subst e; exact .ok q2⟩) hk
end
theorem cRng1_nat {c : CE} {ρ : Ev} {S S' : Sto} {n : Nat} (e : c ρ S = .ok (.p (.int n)) S') (h : n ≤ 4611686018427387903) : cRng1 c ρ S = .ok (rangeP 0 n, none) S' := by
  simp only [xRng1, e, bind_okE, rngOk_nat n h, if_true, Int.toNat_natCast]
theorem bindN {α β : Type} {r : R α} {f : α → Sto → R β} {J : α → Sto → Prop} {Q : β → Sto → Prop} (h : Nd r J) (hk : ∀ a S, J a S → Nd (f a S) Q) : Nd (r.bind f) Q := h.bind hk
/-- a comprehension over a range, drawing on its way -/
theorem compR {g : CG} {e : CE} {vs : List Nat} {it : CI} {ρ : Ev} {S S' : Sto} {n : Nat} {Q : List P → Sto → Prop} (ei : it ρ S = .ok (rangeP 0 n, none) S') (I : List P → Sto → Prop) (h : I [] S') (hl : n ≤ 16777216)
    (hs : ∀ (j : Nat) acc S, j < n → acc.length = j → I acc S → Nd ((g (.p (.int j)) (wipeE ρ vs) S).bind fun ρ1 S1 => e ρ1 S1) fun d S2 => ∃ y, d = .p y ∧ I (acc ++ [y]) S2)
    (hk : ∀ ys S', I ys S' → ys.length = n → Q ys S') : Nd (cComp it g cYes e vs ρ S) Q := by
  simp only [xComp, ei, bind_okE]
  rw [← bind_pure (compL _ _ _ _ _ _ _ _ _)]
  have key : ∀ (m : Nat) (acc : List P) (S : Sto), acc.length + m = n → I acc S → ∃ ys S', compL g cYes e none (rangeP 0 n) ((List.range' acc.length m).map fun j : Nat => P.int (j : Int)) acc (wipeE ρ vs) S = .ok ys S' ∧ I ys S' ∧ ys.length = n := by
    intro m
    induction m with
    | zero => exact fun acc S hm hI => ⟨acc, S, by simp [compL], hI, by omega⟩
    | succ m ih =>
      intro acc S hm hI
      obtain ⟨d, S2, e1, y, rfl, h2⟩ := hs acc.length acc S (by omega) rfl hI
      obtain ⟨ρ1, S1, e2, e3⟩ := bind_ok e1
      obtain ⟨ys, S3, e4, h4⟩ := ih (acc ++ [y]) S2 (by rw [List.length_append, List.length_singleton]; omega) h2
      refine ⟨ys, S3, ?_, h4⟩
      rw [List.range'_succ, List.map_cons]
      have hlt : acc.length < sizeLine := by rw [sizeLine_val]; omega
      rw [List.length_append, List.length_singleton] at e4
      simp only [compL, okT, if_true, e2, bind_okE, xYes, e3, hlt, e4]
  obtain ⟨ys, S3, e1, h1, h2⟩ := key n [] S' (by simp) h
  have e0 : (rangeP 0 n) = (List.range' 0 n).map fun j : Nat => P.int (j : Int) := by
    unfold rangeP
    rw [List.range_eq_range']
    exact List.map_congr_left fun j _ => by rw [Int.zero_add]
  rw [List.length_nil] at e1
  rw [e0] at e1 ⊢
  rw [e1, bind_okE]
  exact .ok (hk ys S3 h1 h2)
end Cw
set_option Elab.async false
set_option linter.all false
set_option maxRecDepth 100000
set_option maxHeartbeats 4000000
/-! Cw29: comprehensions over what is told by a Lean list. -/
namespace Cw
open L2
open PySem hiding Run

theorem compF {α : Type} {g : CG} {t : CT} {e : CE} {xs0 : List P} {ρ : Ev} {S : Sto} (enc : α → P) (p : α → Bool) (f : α → P) : ∀ (l : List α) (acc : List P), acc.length + l.length ≤ 16777216 →
    (∀ a ∈ l, ∃ ρ1, g (.p (enc a)) ρ S = .ok ρ1 S ∧ t ρ1 S = .ok (p a) S ∧ (p a = true → e ρ1 S = .ok (.p (f a)) S)) → compL g t e none xs0 (l.map enc) acc ρ S = .ok (acc ++ (l.filter p).map f) S
  | [], acc, _, _ => by simp [compL]
  | a :: r, acc, hl, h => by
    obtain ⟨ρ1, e1, e2, e3⟩ := h a List.mem_cons_self
    rw [List.length_cons] at hl
    have hlt : acc.length < sizeLine := by rw [sizeLine_val]; omega
    rw [List.map_cons]
    cases hp : p a with
    | true =>
      have ih := compF (g := g) (t := t) (e := e) (xs0 := xs0) (ρ := ρ) (S := S) enc p f r (acc ++ [f a]) (by rw [List.length_append, List.length_singleton]; omega) fun y hy => h y (List.mem_cons_of_mem _ hy)
      simp only [compL, okT, if_true, e1, bind_okE, e2, hp, e3 hp, hlt, ih, List.filter_cons, List.map_cons, List.append_assoc, List.singleton_append]
    | false =>
      have ih := compF (g := g) (t := t) (e := e) (xs0 := xs0) (ρ := ρ) (S := S) enc p f r acc (by omega) fun y hy => h y (List.mem_cons_of_mem _ hy)
      simp only [compL, okT, if_true, e1, bind_okE, e2, hp, ih, List.filter_cons, Bool.false_eq_true, if_false]
theorem compM {α : Type} {g : CG} {e : CE} {xs0 : List P} {ρ : Ev} {S : Sto} (enc : α → P) (f : α → P) (l : List α) (hl : l.length ≤ 16777216) (h : ∀ a ∈ l, ∃ ρ1, g (.p (enc a)) ρ S = .ok ρ1 S ∧ e ρ1 S = .ok (.p (f a)) S) :
    compL g cYes e none xs0 (l.map enc) [] ρ S = .ok (l.map f) S := by
  have := compF (g := g) (t := cYes) (e := e) (xs0 := xs0) (ρ := ρ) (S := S) enc (fun _ => true) f l [] (by rw [List.length_nil]; omega) fun a ha => by
    obtain ⟨ρ1, e1, e2⟩ := h a ha
    exact ⟨ρ1, e1, rfl, fun _ => e2⟩
  rw [this, List.nil_append, List.filter_eq_self.mpr fun _ _ => rfl]
/-- [e for x in it if t] -/
theorem cmpF {α : Type} {it : CI} {g : CG} {t : CT} {e : CE} {vs : List Nat} {ρ : Ev} {S : Sto} {enc : α → P} {l : List α} (p : α → Bool) (f : α → P) (hi : it ρ S = .ok (l.map enc, none) S) (hl : l.length ≤ 16777216)
    (h : ∀ a ∈ l, ∃ ρ1, g (.p (enc a)) (wipeE ρ vs) S = .ok ρ1 S ∧ t ρ1 S = .ok (p a) S ∧ (p a = true → e ρ1 S = .ok (.p (f a)) S)) : cComp it g t e vs ρ S = .ok ((l.filter p).map f) S := by
  rw [xComp, hi, bind_okE]
  exact (compF enc p f l [] (by rw [List.length_nil]; omega) h).trans (by rw [List.nil_append])
theorem cmpM {α : Type} {it : CI} {g : CG} {e : CE} {vs : List Nat} {ρ : Ev} {S : Sto} {enc : α → P} {l : List α} (f : α → P) (hi : it ρ S = .ok (l.map enc, none) S) (hl : l.length ≤ 16777216)
    (h : ∀ a ∈ l, ∃ ρ1, g (.p (enc a)) (wipeE ρ vs) S = .ok ρ1 S ∧ e ρ1 S = .ok (.p (f a)) S) : cComp it g cYes e vs ρ S = .ok (l.map f) S := by
  rw [xComp, hi, bind_okE]
  exact compM enc f l hl h
/-- all([e for x in it]) -/
theorem allM {α : Type} {it : CI} {g : CG} {e : CE} {vs : List Nat} {ρ : Ev} {S : Sto} {enc : α → P} {l : List α} (q : α → Bool) (hi : it ρ S = .ok (l.map enc, none) S) (hl : l.length ≤ 16777216)
    (h : ∀ a ∈ l, ∃ ρ1, g (.p (enc a)) (wipeE ρ vs) S = .ok ρ1 S ∧ e ρ1 S = .ok (.p (.bl (q a))) S) : c1 gAll (cCons (cRo (cComp it g cYes e vs)) cNil) ρ S = .ok (.p (.bl (l.all q))) S := by
  simp only [x1, xCons, xNil, xRo, cmpM (fun a => P.bl (q a)) hi hl h, bind_okE]
  have hb : blsP (l.map fun a => P.bl (q a)) = some (l.map q) := blsP_map q l
  have := vAllRo S hb
  rw [List.all_map] at this
  exact this
theorem anyM {α : Type} {it : CI} {g : CG} {e : CE} {vs : List Nat} {ρ : Ev} {S : Sto} {enc : α → P} {l : List α} (q : α → Bool) (hi : it ρ S = .ok (l.map enc, none) S) (hl : l.length ≤ 16777216)
    (h : ∀ a ∈ l, ∃ ρ1, g (.p (enc a)) (wipeE ρ vs) S = .ok ρ1 S ∧ e ρ1 S = .ok (.p (.bl (q a))) S) : c1 gAny (cCons (cRo (cComp it g cYes e vs)) cNil) ρ S = .ok (.p (.bl (l.any q))) S := by
  simp only [x1, xCons, xNil, xRo, cmpM (fun a => P.bl (q a)) hi hl h, bind_okE]
  have hb : blsP (l.map fun a => P.bl (q a)) = some (l.map q) := blsP_map q l
  have : gAny [.p (.ro (l.map fun a => P.bl (q a)))] S = .ok (.p (.bl ((l.map q).any id))) S := by simp [gAny, gBls, seqA, seqL, hb]
  rw [List.any_map] at this
  exact this
/-- a comprehension that draws from what stands first -/
theorem cmpD {α : Type} {it : CI} {g : CG} {e : CE} {vs : List Nat} {ρ : Ev} {S S' : Sto} {enc : α → P} {l : List α} {Q : List P → Sto → Prop} (hi : it ρ S = .ok (l.map enc, none) S') (hl : l.length ≤ 16777216) (I : List α → List P → Sto → Prop) (h0 : I [] [] S')
    (hs : ∀ pre a post acc S, l = pre ++ a :: post → acc.length = pre.length → I pre acc S → Nd ((g (.p (enc a)) (wipeE ρ vs) S).bind fun ρ1 S1 => e ρ1 S1) fun d S2 => ∃ y, d = .p y ∧ I (pre ++ [a]) (acc ++ [y]) S2)
    (hk : ∀ ys S, ys.length = l.length → I l ys S → Q ys S) : Nd (cComp it g cYes e vs ρ S) Q := by
  rw [xComp, hi, bind_okE]
  have key : ∀ (post pre : List α) (acc : List P) (S : Sto), pre ++ post = l → acc.length = pre.length → I pre acc S → ∃ ys S2, compL g cYes e none (l.map enc) (post.map enc) acc (wipeE ρ vs) S = .ok ys S2 ∧ ys.length = l.length ∧ I l ys S2 := by
    intro post
    induction post with
    | nil =>
      intro pre acc S e1 ha hI
      rw [List.append_nil] at e1
      subst e1
      exact ⟨acc, S, by simp [compL], ha, hI⟩
    | cons a r ih =>
      intro pre acc S e1 ha hI
      obtain ⟨d, S2, e2, y, rfl, h2⟩ := hs pre a r acc S e1.symm ha hI
      obtain ⟨ρ1, S1, e3, e4⟩ := bind_ok e2
      obtain ⟨ys, S3, e5, h5⟩ := ih (pre ++ [a]) (acc ++ [y]) S2 (by rw [List.append_assoc]; exact e1) (by rw [List.length_append, List.length_append, ha]; rfl) h2
      have hlt : acc.length < sizeLine := by
        rw [sizeLine_val, ha]
        have := congrArg List.length e1
        rw [List.length_append, List.length_cons] at this
        omega
      refine ⟨ys, S3, ?_, h5⟩
      rw [List.map_cons]
      simp only [compL, okT, if_true, e3, bind_okE, xYes, e4, hlt, e5]
  obtain ⟨ys, S2, e1, h1, h2⟩ := key l [] [] S' rfl rfl h0
  rw [e1]
  exact .ok (hk ys S2 h1 h2)
/-! ### over a list of the store that stands still -/
theorem compFT {α : Type} {g : CG} {t : CT} {e : CE} {tr : Option (Nat × List P)} {xs0 : List P} {ρ : Ev} {S : Sto} (hok : okT tr xs0 S = true) (enc : α → P) (p : α → Bool) (f : α → P) : ∀ (l : List α) (acc : List P), acc.length + l.length ≤ 16777216 →
    (∀ a ∈ l, ∃ ρ1, g (.p (enc a)) ρ S = .ok ρ1 S ∧ t ρ1 S = .ok (p a) S ∧ (p a = true → e ρ1 S = .ok (.p (f a)) S)) → compL g t e tr xs0 (l.map enc) acc ρ S = .ok (acc ++ (l.filter p).map f) S
  | [], acc, _, _ => by simp [compL, hok]
  | a :: r, acc, hl, h => by
    obtain ⟨ρ1, e1, e2, e3⟩ := h a List.mem_cons_self
    rw [List.length_cons] at hl
    have hlt : acc.length < sizeLine := by rw [sizeLine_val]; omega
    rw [List.map_cons]
    cases hp : p a with
    | true =>
      have ih := compFT (g := g) (t := t) (e := e) (ρ := ρ) hok enc p f r (acc ++ [f a]) (by rw [List.length_append, List.length_singleton]; omega) fun y hy => h y (List.mem_cons_of_mem _ hy)
      simp only [compL, hok, if_true, e1, bind_okE, e2, hp, e3 hp, hlt, ih, List.filter_cons, List.map_cons, List.append_assoc, List.singleton_append]
    | false =>
      have ih := compFT (g := g) (t := t) (e := e) (ρ := ρ) hok enc p f r acc (by omega) fun y hy => h y (List.mem_cons_of_mem _ hy)
      simp only [compL, hok, if_true, e1, bind_okE, e2, hp, ih, List.filter_cons, Bool.false_eq_true, if_false]
theorem cmpFT {α : Type} {it : CI} {g : CG} {t : CT} {e : CE} {vs : List Nat} {ρ : Ev} {S : Sto} {n : Nat} {enc : α → P} {l : List α} (p : α → Bool) (f : α → P) (hi : it ρ S = .ok (l.map enc, some (n, l.map enc)) S) (hS : S[n]? = some (.lst (l.map enc))) (hl : l.length ≤ 16777216)
    (h : ∀ a ∈ l, ∃ ρ1, g (.p (enc a)) (wipeE ρ vs) S = .ok ρ1 S ∧ t ρ1 S = .ok (p a) S ∧ (p a = true → e ρ1 S = .ok (.p (f a)) S)) : cComp it g t e vs ρ S = .ok ((l.filter p).map f) S := by
  rw [xComp, hi, bind_okE]
  exact (compFT (okT_self hS) enc p f l [] (by rw [List.length_nil]; omega) h).trans (by rw [List.nil_append])
theorem cmpMT {α : Type} {it : CI} {g : CG} {e : CE} {vs : List Nat} {ρ : Ev} {S : Sto} {n : Nat} {enc : α → P} {l : List α} (f : α → P) (hi : it ρ S = .ok (l.map enc, some (n, l.map enc)) S) (hS : S[n]? = some (.lst (l.map enc))) (hl : l.length ≤ 16777216)
    (h : ∀ a ∈ l, ∃ ρ1, g (.p (enc a)) (wipeE ρ vs) S = .ok ρ1 S ∧ e ρ1 S = .ok (.p (f a)) S) : cComp it g cYes e vs ρ S = .ok (l.map f) S := by
  rw [cmpFT (fun _ => true) f hi hS hl fun a ha => by
    obtain ⟨ρ1, e1, e2⟩ := h a ha
    exact ⟨ρ1, e1, rfl, fun _ => e2⟩, List.filter_eq_self.mpr fun _ _ => rfl]
theorem allMT {α : Type} {it : CI} {g : CG} {e : CE} {vs : List Nat} {ρ : Ev} {S : Sto} {n : Nat} {enc : α → P} {l : List α} (q : α → Bool) (hi : it ρ S = .ok (l.map enc, some (n, l.map enc)) S) (hS : S[n]? = some (.lst (l.map enc))) (hl : l.length ≤ 16777216)
    (h : ∀ a ∈ l, ∃ ρ1, g (.p (enc a)) (wipeE ρ vs) S = .ok ρ1 S ∧ e ρ1 S = .ok (.p (.bl (q a))) S) : c1 gAll (cCons (cRo (cComp it g cYes e vs)) cNil) ρ S = .ok (.p (.bl (l.all q))) S := by
  simp only [x1, xCons, xNil, xRo, cmpMT (fun a => P.bl (q a)) hi hS hl h, bind_okE]
  have hb : blsP (l.map fun a => P.bl (q a)) = some (l.map q) := blsP_map q l
  have := vAllRo S hb
  rw [List.all_map] at this
  exact this
theorem forST {B : CS} {ρ : Ev} {S S' : Sto} {Q : Fl → Sto → Prop} {it : CI} {g : CG} {body : CS} {n : Nat} {α : Type} {enc : α → P} {l : List α} (e : it ρ S = .ok (l.map enc, some (n, l.map enc)) S') (I : List α → Ev → Sto → Prop) (hS : ∀ pre ρ S, I pre ρ S → S[n]? = some (.lst (l.map enc))) (h : I [] ρ S')
    (hs : ∀ pre x post ρ S, l = pre ++ x :: post → I pre ρ S → Nd (turnF g body (enc x) ρ S) fun f S' => (∃ ρ', f = .nx ρ' ∧ I (pre ++ [x]) ρ' S') ∨ ∃ d, f = .rt d ∧ Q (.rt d) S')
    (hk : ∀ ρ S, I l ρ S → Nd (B ρ S) Q) : Nd (sSeq (sFor it g body) B ρ S) Q := by
  simp only [xSeq, xFor, e, bind_okE]
  exact forT0 I (fun pre ρ S hI => okT_self (hS pre ρ S hI)) h (fun pre x post ρ S e hI => (hs pre x post ρ S e hI).mono fun f S' q => q.imp_right fun ⟨d, e, q2⟩ => ⟨d, e, by subst e; exact .ok q2⟩) hk
end Cw
set_option Elab.async false
set_option linter.all false
set_option maxRecDepth 100000
set_option maxHeartbeats 4000000
/-! Cw30: tuple * int, noughts and ones too. -/
namespace Cw
open PySem PySem.Spec PyProof.Rows L2

theorem tuple_mul1 (l : Addr) (items : Array Value) (n : Nat) (dd : Option Addr) (sl : Array (Option Value)) (u : Tok) :
    Meets (Builtin.«tuple.__mul__» ⟨[.ref l, .int 1 u], []⟩) (fun _ R s => s.heap.get? l = some { cls := .type "tuple", dict := dd, data := .seq items n, slots := sl } ∧ R (.ok (.ret (.ref l))) s) :=
  .of_wp fun prog w A R s h => by
    obtain ⟨hp, g, d, tk, os⟩ := s
    obtain ⟨hl, h⟩ := h
    have f1 := AutoSeq1.idx_int
    have c0 : (decide ((1 : Int) < -(2 ^ 63)) || decide ((1 : Int) ≥ 2 ^ 63)) = false := by decide
    have c1 : (items.isEmpty || (1 : Int) == 1) = true := by simp
    wp_walk using wpAny_loadPart' hl
    repeat (first
      | (refine wpAny_ite_false (decide_eq_false (by rw [c0]; exact Bool.false_ne_true)) ?_; wp_walk using wpAny_loadPart' hl)
      | (refine wpAny_ite_true (decide_eq_true (by rw [c1])) ?_; wp_walk using wpAny_loadPart' hl))
    exact ⟨_, rfl, h⟩
theorem tuple_mul0 (l : Addr) (items : Array Value) (n : Nat) (dd : Option Addr) (sl : Array (Option Value)) (x : Int) (u : Tok) (c0 : (decide (x < -(2 ^ 63)) || decide (x ≥ 2 ^ 63)) = false) (c1 : (items.isEmpty || x == 1) = false) (c2 : (decide (x ≤ 0) || items.isEmpty) = true) :
    Meets (Builtin.«tuple.__mul__» ⟨[.ref l, .int x u], []⟩) (fun _ R s => s.heap.get? l = some { cls := .type "tuple", dict := dd, data := .seq items n, slots := sl } ∧
      R (.ok (.ret (Value.ref s.heap.objs.size))) { s with heap := s.heap.push { cls := Value.type "tuple", data := Data.seq #[] }, toks := s.toks }) :=
  .of_wp fun prog w A R s h => by
    obtain ⟨hp, g, d, tk, os⟩ := s
    obtain ⟨hl, h⟩ := h
    have f1 := AutoSeq1.idx_int
    wp_walk using wpAny_loadPart' hl
    repeat (first
      | (refine wpAny_ite_false (decide_eq_false (by rw [c0]; exact Bool.false_ne_true)) ?_; wp_walk using wpAny_loadPart' hl)
      | (refine wpAny_ite_false (decide_eq_false (by rw [c1]; exact Bool.false_ne_true)) ?_; wp_walk using wpAny_loadPart' hl)
      | (refine wpAny_ite_true (decide_eq_true (by rw [c2])) ?_; wp_walk using wpAny_loadPart' hl))
    exact ⟨_, rfl, h⟩
def rRepM (K : PySem.W.Frag) : R2 := fun x y H Q => ∃ l k xs, x = .ref l ∧ y = .int k ∧ SqT K H l xs ∧ xs ≠ [] ∧ -1000 ≤ k ∧ k ≤ 1000 ∧ xs.length ≤ 1000 ∧ (k = 1 → Q (.ref l) H) ∧ (k ≠ 1 → newT H (List.replicate k.toNat xs).flatten Q)
section
variable {X : Cx}
theorem op_repM : OpR X (binaryOp .Mult) (rRepM X.K) := by
  intro pins s σ H x y v u Q I rx ry h
  obtain ⟨l, k, xs, rfl, rfl, hT, hne, h0, h1, hz, q1, qn⟩ := h
  cases rx
  obtain ⟨t, rfl⟩ := ry
  obtain ⟨its, r, ⟨⟨cls, dd, data, sl⟩, ho, hc, n, hd⟩, hs⟩ := I.tuple hT
  simp only at hc hd
  subst hc hd
  have hle : its.length = xs.length := r.length.symm
  have hn : its ≠ [] := fun e => hne (by
    rw [e] at hle
    exact List.eq_nil_of_length_eq_zero hle.symm)
  have hi : its.toArray.isEmpty = false := by
    cases its with
    | nil => exact absurd rfl hn
    | cons a b => rfl
  have hsz0 : its.toArray.size = xs.length := by rw [List.size_toArray, hle]
  have c0 : (decide (k < -(2 ^ 63)) || decide (k ≥ 2 ^ 63)) = false := by
    rw [decide_eq_false (by omega), decide_eq_false (by omega)] <;> rfl
  refine wpAny_binaryOp_repeat_ref (T := "tuple") (U := "int") (by decide) ⟨_, ho, rfl⟩ (fun s' => typeIs_int s' k t) noFill_tuple_mul F.fills_int_mul F.slot_int_rmul repeat_tuple F.slot_int_index.lookup
    (call_meets F.slot_int_rmul (typeIs_int s k t) F.entry_int_rmul (F.args_int_rmul_2 _ _) (int_rmul_tuple k t l its.toArray n dd sl)
      ⟨ho, rfl, ⟨_, ho, rfl⟩, ?_⟩)
  by_cases e1 : k = 1
  · subst e1
    exact call_meets F.slot_tuple_mul ⟨_, ho, rfl⟩ F.entry_tuple_mul (F.args_tuple_mul_2 _ _) (tuple_mul1 l its.toArray n dd sl t) ⟨ho, .ref l, H, I, rfl, q1 rfl⟩
  have c1 : (its.toArray.isEmpty || k == 1) = false := by
    rw [hi, Bool.false_or]
    exact beq_eq_false_iff_ne.mpr e1
  by_cases e2 : k ≤ 0
  · have c2 : (decide (k ≤ 0) || its.toArray.isEmpty) = true := by rw [decide_eq_true e2]; rfl
    refine call_meets F.slot_tuple_mul ⟨_, ho, rfl⟩ F.entry_tuple_mul (F.args_tuple_mul_2 _ _) (tuple_mul0 l its.toArray n dd sl k t c0 c1 c2) ⟨ho, ?_⟩
    have e := Heap.get?_push_size s.heap (o := { cls := .type "tuple", data := .seq #[] }) rfl
    have ek : (List.replicate k.toNat xs).flatten = [] := by rw [show k.toNat = 0 by omega]; rfl
    have qn := qn e1
    rw [ek] at qn
    exact fin_tup (xs := []) (its := []) (t' := s.toks) I (fun b o e => Heap.get?_push_of_some _ e) (Nat.le_refl _) (Nat.zero_le _) (show Vals [] [] from r.rep 0) e ⟨_, e, rfl, _, rfl⟩ rfl qn
  · have hm : ((its.toArray.size : Nat) : Int) * k ≤ 1000000 := by
      rw [hsz0]
      have a1 : ((xs.length : Nat) : Int) * k ≤ 1000 * k := Int.mul_le_mul_of_nonneg_right (by omega) (by omega)
      omega
    have flen : (List.replicate k.toNat its).flatten.length ≤ sizeLine := by
      rw [PyProof.Rows.lm_len_rep_flat, hle, sizeLine_eq]
      have a1 : k.toNat * xs.length ≤ 1000 * 1000 := Nat.mul_le_mul (by omega) hz
      omega
    have c2 : (decide (k ≤ 0) || its.toArray.isEmpty) = false := by
      rw [hi, Bool.or_false]
      exact decide_eq_false (by omega)
    have c4 : Builtin.Tuple.tupleTooMany (((its.toArray.size : Nat) : Int) * k) = false := by
      unfold Builtin.Tuple.tupleTooMany
      rw [sizeLine_eq]
      exact decide_eq_false (by omega)
    refine call_meets F.slot_tuple_mul ⟨_, ho, rfl⟩ F.entry_tuple_mul (F.args_tuple_mul_2 _ _) (tuple_mulW l its.toArray n dd sl k t c0 c1 c2 (by omega) c4 (by rw [size_rep, List.size_toArray]; exact flen)) ⟨ho, ?_⟩
    rw [size_rep]
    have e := Heap.get?_push_size s.heap (o := { cls := .type "tuple", data := .seq (List.replicate k.toNat its).flatten.toArray }) rfl
    exact fin_tup (t' := s.toks) I (fun b o e => Heap.get?_push_of_some _ e) (Nat.le_refl _) (by rw [PyProof.Rows.lm_len_rep_flat, sizeLine_eq]; have a1 : k.toNat * xs.length ≤ 1000 * 1000 := Nat.mul_le_mul (by omega) hz; omega) (r.rep k.toNat) e ⟨_, e, rfl, _, rfl⟩ rfl (qn e1)
end
def gMulT : D → D → Sto → R D
  | .p (.tup xs), .p (.int k), S => if xs ≠ [] ∧ -1000 ≤ k ∧ k ≤ 1000 ∧ xs.length ≤ 1000 then .ok (.p (.tup (List.replicate k.toNat xs).flatten)) S else .no
  | _, _, _ => .no
theorem mulT_ways {X : Cx} (x y : D) (S : Sto) (d : D) (S' : Sto) (e : gMulT x y S = .ok d S') : ∃ r, OpR X (binaryOp .Mult) r ∧ Lk2 X.K r gMulT x y S := by
  refine ⟨_, op_repM, fun ι H v w d S' Q wd r1 r2 e k => ?_⟩
  unfold gMulT at e
  split at e
  · rename_i xs i _
    split at e
    · rename_i hc
      cases e
      obtain ⟨a, vs, rfl, h1, q1⟩ := r1.tupD
      cases r2.intD
      obtain ⟨hne, h0, h2, h3⟩ := hc
      refine ⟨a, i, vs, rfl, rfl, h1.sq, fun z => hne (by subst z; cases q1; rfl), h0, h2, by rw [q1.length]; exact h3, fun z => ?_, fun _ p o hp hd => ?_⟩
      · subst z
        refine k _ ι H (.refl _ _) wd (.p (.tup h1 ?_))
        have : (List.replicate (1 : Int).toNat xs).flatten = xs := by simp
        rw [this]; exact q1
      · exact k _ ι _ (Step.new1 wd hp _) (wd.new1 hp _) (RD.newTup wd hp hd (q1.rep i.toNat))
    · cases e
  · cases e
theorem re_mulT {X : Cx} {a b : Expr} {ca cb : CE} {pos : Pos} (ha : PE X a (RdE X.K ca)) (hb : PE X b (RdE X.K cb)) : PE X (.BinOp a .Mult b pos) (RdE X.K (c2 gMulT ca cb)) := re2 (op_ways mulT_ways) ha hb
theorem vMulT {xs : List P} {k : Int} (S : Sto) (h : xs ≠ []) (h0 : -1000 ≤ k) (h1 : k ≤ 1000) (h2 : xs.length ≤ 1000) : gMulT (.p (.tup xs)) (.p (.int k)) S = .ok (.p (.tup (List.replicate k.toNat xs).flatten)) S := by
  show (if _ then R.ok (Cw.D.p _) S else R.no : R Cw.D) = _
  rw [if_pos ⟨h, h0, h1, h2⟩]
end Cw
set_option Elab.async false
set_option linter.all false
set_option maxRecDepth 100000
set_option maxHeartbeats 4000000
/-! Cw31: the signs of a text, reversed(range(..)). -/
namespace Cw
open PySem PySem.Spec PyProof.Rows L2

section
variable {K : PySem.W.Frag} {ι : Lk} {H : Hp}
def chrP (x : Str) : List P := x.cps.toList.map fun c => .str ⟨#[c]⟩
theorem go_str {x : Str} (hx : PyData.strOk x = true) : Go K (Its x) ι H (chrP x) none := fun ι1 H1 S1 st wd _ => by
  have hl : (chrP x).length = x.cps.size := by unfold chrP; rw [List.length_map, Array.length_toList]
  refine ⟨fun i y e => ?_, by rw [hl]; exact Nat.le_refl _⟩
  have hi : i < x.cps.size := by
    rcases Nat.lt_or_ge i x.cps.size with q | q
    · exact q
    · rw [List.getElem?_eq_none (by omega)] at e; cases e
  refine ⟨hi, fun w H' yy => ?_⟩
  obtain ⟨e1, c, hc, e2⟩ := yy
  subst e1 e2
  have : (chrP x)[i]? = some (.str ⟨#[c]⟩) := by
    unfold chrP
    rw [List.getElem?_map, Array.getElem?_toList, hc]; rfl
  rw [this] at e
  cases e
  refine ⟨.refl _ _, wd, .str ?_⟩
  unfold PyData.strOk at hx ⊢
  rw [Array.all_eq_true_iff_forall_mem] at hx ⊢
  intro d hd
  have : d = c := by simpa using hd
  subst this
  exact hx d (Array.mem_of_getElem? hc)
theorem RD.strW {v : V} {s : Str} (r : RD K ι H v (.p (.str s))) : v = .str s ∧ PyData.strOk s = true := by
  cases r with
  | p r => cases r with
    | str h => exact ⟨rfl, h⟩
theorem go_revRg (a : Int) (n : Nat) : Go K (Itc (a + ((n : Nat) : Int) - 1) (-1) n) ι H (rangeP a n).reverse none := fun ι1 H1 S1 st wd _ => by
  have hl : (rangeP a n).length = n := by unfold rangeP; rw [List.length_map, List.length_range]
  refine ⟨fun i x e => ?_, by rw [List.length_reverse, hl]; exact Nat.le_refl n⟩
  have hi : i < n := by
    rcases Nat.lt_or_ge i n with q | q
    · exact q
    · rw [List.getElem?_eq_none (by rw [List.length_reverse, hl]; omega)] at e; cases e
  refine ⟨hi, fun w H' y => ?_⟩
  obtain ⟨e1, e2⟩ := y
  subst e1 e2
  rw [List.getElem?_reverse (by rw [hl]; exact hi), hl] at e
  have : (rangeP a n)[n - 1 - i]? = some (.int (a + ((n - 1 - i : Nat) : Int))) := by
    unfold rangeP
    rw [List.getElem?_map, List.getElem?_range (by omega)]; rfl
  rw [this] at e
  cases e
  refine ⟨.refl _ _, wd, ?_⟩
  have h : a + ((n : Nat) : Int) - 1 + (i : Nat) * (-1) = a + ((n - 1 - i : Nat) : Int) := by omega
  rw [h]
  exact .int _
end
/-- the signs of a text -/
def cItS (c : CE) : CI := fun ρ S => (c ρ S).bind fun d S1 => match d with
  | .p (.str x) => .ok (chrP x, none) S1
  | _ => .no
/-- reversed(range(n)) -/
def cRevR1 (c : CE) : CI := fun ρ S => (c ρ S).bind fun d S1 => match d with
  | .p (.int j) => if rngOk 0 j then .ok ((rangeP 0 j.toNat).reverse, none) S1 else .no
  | _ => .no
section
variable {X : Cx} {tg e : Expr} {ce : CE}
theorem ri_str (h : PE X e (RdE X.K ce)) : PI X tg e (RdI X.K (cItS ce)) := (pi_str h).weak fun σ H Q ⟨ι, ρ, S, cf, xs, tr, S', e, k⟩ => by
  obtain ⟨d, S1, e1, e2⟩ := bind_ok e
  refine RdE.run cf e1 fun v ι1 H1 st1 cf1 r1 => ?_
  split at e2
  · cases e2
    obtain ⟨rfl, hx⟩ := r1.strW
    exact ⟨_, rfl, k _ ι1 H1 st1 cf1.wd (go_str hx)⟩
  · cases e2
theorem ri_revR {a : Expr} {ca : CE} {p pos p2 pos2 : Pos} (hg : Gl X "reversed") (hm : X.mg "reversed" = none) (hg2 : Gl X "range") (hm2 : X.mg "range" = none) (ha : PE X a (RdE X.K ca))
    (na : starEach [a] X.env = (false, eval a X.env) :: starEach [] X.env := by rfl)
    (hs : starEach [.Call (.Name "range" p2) [a] [] pos2] X.env = (false, eval (.Call (.Name "range" p2) [a] [] pos2) X.env) :: starEach [] X.env := by rfl) :
    PI X tg (.Call (.Name "reversed" p) [.Call (.Name "range" p2) [a] [] pos2] [] pos) (RdI X.K (cRevR1 ca)) :=
  (pi_revR hg hm (prg_1 hg2 hm2 ha na) hs).weak fun σ H Q ⟨ι, ρ, S, cf, xs, tr, S', e, k⟩ => by
    obtain ⟨d, S1, e1, e2⟩ := bind_ok e
    refine RdE.run cf e1 fun v ι1 H1 st1 cf1 r1 => ?_
    split at e2
    · split at e2
      · rename_i j hj
        cases e2
        have hj := rngOk_of hj
        refine ⟨j, by rw [r1.intD], by omega, by omega, hj.2.2.1, hj.2.2.2, k _ ι1 H1 st1 cf1.wd ?_⟩
        have h : (j - 0).toNat = j.toNat := by rw [Int.sub_zero]
        rw [h]
        exact go_revRg 0 j.toNat
      · cases e2
    · cases e2
end
@[simp] theorem xItS (c : CE) (ρ : Ev) (S : Sto) : cItS c ρ S = (c ρ S).bind fun d S1 => match d with | .p (.str x) => .ok (chrP x, none) S1 | _ => .no := id rfl
@[simp] theorem xRevR1 (c : CE) (ρ : Ev) (S : Sto) : cRevR1 c ρ S = (c ρ S).bind fun d S1 => match d with | .p (.int j) => if rngOk 0 j then .ok ((rangeP 0 j.toNat).reverse, none) S1 else .no | _ => .no := id rfl
end Cw
set_option Elab.async false
set_option linter.all false
set_option maxRecDepth 100000
set_option maxHeartbeats 4000000
/-! Cw32: a thing of the store, handed on for good. -/
namespace Cw
open PySem PySem.Spec PyProof.Rows L2

section
variable {K : PySem.W.Frag} {ι : Lk} {H : Hp} {S : Sto}
def Lk.let (ι : Lk) (m : Nat) : Lk := ⟨ι.ix.set m none, ι.hid⟩
theorem let_at {m n : Nat} (h : n ≠ m) : (ι.let m).ix[n]? = ι.ix[n]? := List.getElem?_set_ne (Ne.symm h)
theorem let_self {m : Nat} (h : m < ι.ix.length) : (ι.let m).ix[m]? = some none := List.getElem?_set_self h
theorem let_has {m : Nat} {b : Addr} (h : (ι.let m).has b) : ι.has b := by
  rcases h with h | h
  · rcases List.mem_or_eq_of_mem_set h with q | q
    · exact .inl q
    · cases q
  · exact .inr h
theorem let_not (wd : Wd K ι H S) {m : Nat} {a : Addr} (e : ι.ix[m]? = some (some a)) : ¬ (ι.let m).has a := fun h => by
  have hm : some a ∈ ι.ix := List.mem_of_getElem? e
  rcases h with h | h
  · obtain ⟨n, hn⟩ := List.mem_iff_getElem?.mp h
    by_cases hnm : n = m
    · subst hnm
      obtain ⟨hl, _⟩ := List.getElem?_eq_some_iff.mp e
      rw [let_self hl] at hn
      cases hn
    · rw [let_at hnm] at hn
      exact hnm (wd.nd n m a hn e)
  · exact (wd.hd a h).2 hm
theorem let_wd (wd : Wd K ι H S) (m : Nat) (hm : m < S.length) : Wd K (ι.let m) H (S.set m .gone) := by
  have hl : m < ι.ix.length := by rw [wd.len]; exact hm
  refine ⟨?_, fun n j a hn hj => ?_, fun n o e => ?_, fun a ha => ⟨(wd.hd a ha).1, fun z => ?_⟩⟩
  · show (ι.ix.set m none).length = _
    rw [List.length_set, List.length_set, wd.len]
  · by_cases h1 : n = m
    · subst h1; rw [let_self hl] at hn; cases hn
    · by_cases h2 : j = m
      · subst h2; rw [let_self hl] at hj; cases hj
      · rw [let_at h1] at hn
        rw [let_at h2] at hj
        exact wd.nd n j a hn hj
  · by_cases h1 : n = m
    · subst h1
      rw [List.getElem?_set_self hm] at e
      cases e
      rw [let_self hl]
      exact .gone
    · rw [List.getElem?_set_ne (Ne.symm h1)] at e
      rw [let_at h1]
      exact (wd.ob n o e).has fun a h => let_has h
  · rcases List.mem_or_eq_of_mem_set z with q | q
    · exact (wd.hd a ha).2 q
    · cases q
theorem let_step (m : Nat) : Step ι H (ι.let m) H := by
  refine ⟨rfl, by show _ ≤ (ι.ix.set m none).length; rw [List.length_set]; exact Nat.le_refl _, fun n o h => ?_, fun a h => ?_, fun _ _ h _ => h, fun _ h => h⟩
  · by_cases h1 : n = m
    · subst h1
      obtain ⟨hl, _⟩ := List.getElem?_eq_some_iff.mp h
      exact .inr (let_self hl)
    · exact .inl (by rw [let_at h1]; exact h)
  · rcases List.mem_or_eq_of_mem_set h with q | q
    · exact .inl q
    · cases q
end
/-- a name's thing, from now on a value -/
def cFz (j : Nat) : CE := fun ρ S => (cVar j ρ S).bind fun d S => match d with
  | .p x => .ok (.p x) S
  | .ref m => match S[m]? with
    | some (.lst xs) => .ok (.p (.ro xs)) (S.set m .gone)
    | some (.dic kvs) => .ok (.p (.dic kvs)) (S.set m .gone)
    | _ => .no
theorem re_fz {X : Cx} {e : Expr} {j : Nat} (h : PE X e (RdE X.K (cVar j))) : PE X e (RdE X.K (cFz j)) := h.weak fun σ H Q ⟨ι, ρ, S, cf, d', S', e, k⟩ => by
  obtain ⟨d, S1, e1, e2⟩ := bind_ok e
  refine ⟨ι, ρ, S, cf, d, S1, e1, fun v ι1 H1 st wd r => ?_⟩
  cases d with
  | p x => cases e2; exact k v ι1 H1 st wd r
  | ref m =>
    simp only at e2
    split at e2
    · rename_i xs hx
      cases e2
      have q := wd.ob m _ hx
      cases r with
      | ref h1 h2 =>
        rw [h1] at q
        cases q with
        | lst h3 r3 =>
          have := h2 _ rfl
          subst this
          have hm := (List.getElem?_eq_some_iff.mp hx).1
          exact k _ (ι1.let m) H1 (st.trans (let_step m)) (let_wd wd m hm) (.p (.ro (.inl h3) (let_not wd h1) (r3.has fun a h => let_has h)))
    · rename_i kvs hx
      cases e2
      have q := wd.ob m _ hx
      cases r with
      | ref h1 h2 =>
        rw [h1] at q
        cases q with
        | dic h3 r3 =>
          have := h2 _ rfl
          subst this
          have hm := (List.getElem?_eq_some_iff.mp hx).1
          exact k _ (ι1.let m) H1 (st.trans (let_step m)) (let_wd wd m hm) (.p (.dic (.of h3) (let_not wd h1) (r3.has fun a h => let_has h)))
    · cases e2
@[simp] theorem xFz (j : Nat) (ρ : Ev) (S : Sto) : cFz j ρ S = (cVar j ρ S).bind fun d S => match d with
  | .p x => .ok (.p x) S
  | .ref m => match S[m]? with
    | some (.lst xs) => .ok (.p (.ro xs)) (S.set m .gone)
    | some (.dic kvs) => .ok (.p (.dic kvs)) (S.set m .gone)
    | _ => .no := id rfl
end Cw
set_option Elab.async false
set_option linter.all false
set_option maxRecDepth 100000
set_option maxHeartbeats 1000000
/-! list(zip(a, b)): the next pair while the pair given out before is held. -/
namespace Cw
open PySem PySem.Spec PyProof.Rows L2

section
variable {prog : Program} {w : World} {A : Around} {E : Value → Shared → Prop} {s : Shared} {z TI TO T i1 i2 : Addr} {fp1 fp2 : List Addr} {n1 n2 i : Nat} {P1 P2 : Nat → Value → Prop} {St1 St2 : Nat → Heap → Prop} {f : Bool} {oT : Obj}
theorem zh_item {Q : Option Value → Shared → Prop} (Z : ZipSep2 z TI TO i1 i2 fp1 fp2) (D1 : Draws prog w A.in1 i1 fp1 n1 P1 St1) (D2 : Draws prog w A.in1 i2 fp2 n2 P2 St2)
    (hz : IsZipHeld s.heap z TI TO T f) (hT : s.heap.get? T = some oT) (hTI : IsTupOf2 s.heap TI (.ref i1) (.ref i2)) (t1 : St1 i s.heap) (t2 : St2 i s.heap) (l1 : i < n1) (l2 : i < n2)
    (k : ∀ x y h' tk, P1 i x → P2 i y → IsZipHeld h' z TI TO T true → St1 (i + 1) h' → St2 (i + 1) h' → IsTupOf2 h' s.heap.objs.size x y → h'.objs.size = s.heap.objs.size + 1 →
      (∀ c o, c ≠ z → c ≠ i1 → c ≠ i2 → s.heap.get? c = some o → h'.get? c = some o) → Q (some (.ref s.heap.objs.size)) { s with heap := h', toks := tk }) : wpAny (model prog w) A (pyNext (.ref z)) Q E s := by
  have ty : s.TypeIs (.ref z) "zip" := ⟨_, hz, rfl⟩
  obtain ⟨hp, g, d, tk0, os⟩ := s
  have main : wpAny (model prog w) A.in1 (Builtin.«zip.__next__» ⟨[.ref z], []⟩) (fun fin s' => ∃ v, fin = .done (.ret v) ∧ Q (some v) s') (fun e s' => False) ⟨hp, g, d, tk0, os⟩ := by
    show wpAny _ _ (field (.ref z) 2 >>= _) _ _ _
    refine wpAny_bind (wpAny_field hz rfl (x := .bool false) rfl ?_)
    show wpAny _ _ (field (.ref z) 3 >>= _) _ _ _
    refine wpAny_bind (wpAny_field hz rfl (x := .ref TI) rfl ?_)
    refine wpAny_bind (wpAny_seqItems hTI rfl ?_)
    show wpAny _ _ (Builtin.SmallTypes.ownedTupleIsFree (.ref z) >>= _) _ _ _
    refine wpAny_bind (wpAny_tupleHeld_zip (s := ⟨hp, g, d, tk0, os⟩) hz hT fun a ha sa => ?_)
    replace sa : Heap.SameBut z hp a := sa
    simp only [Bool.false_eq_true, if_false]
    refine wpAny_bind ?_
    rw [← Array.forIn_toList]
    simp only [List.forIn_cons, List.forIn_nil]
    refine wpAny_bind (wpAny_bind (wpAny_holding ?_))
    show wpAny _ _ (Builtin.SmallTypes.nextOf (.ref i1) >>= _) _ _ ⟨a, g, d, tk0, os⟩
    refine wpAny_bind (D1.item i ⟨a, g, d, tk0, os⟩ _ _ l1 (D1.over t1 sa Z.zf1) fun x b u1 hx m1 sb => wpAny_pure ?_)
    replace sb : Heap.SameBut i1 a b := sb
    refine wpAny_pure ?_
    refine wpAny_bind (wpAny_bind (wpAny_holding ?_))
    show wpAny _ _ (Builtin.SmallTypes.nextOf (.ref i2) >>= _) _ _ ⟨b, g, d, u1, os⟩
    refine wpAny_bind (D2.item i ⟨b, g, d, u1, os⟩ _ _ l2 (D2.over (D2.over t2 sa Z.zf2) sb Z.sep1_2) fun y c u2 hy m2 sc => wpAny_pure ?_)
    replace sc : Heap.SameBut i2 b c := sc
    refine wpAny_pure (wpAny_pure ?_)
    show wpAny _ _ (newTuple [x, y] >>= _) _ _ ⟨c, g, d, u2, os⟩
    refine wpAny_bind (wpAny_newTuple ?_)
    have sz : c.objs.size = hp.objs.size := by rw [sc.1, sb.1, sa.1]
    have hzc : IsZipHeld c z TI TO T true := sc.extBut _ _ Z.zi2 (sb.extBut _ _ Z.zi1 ha)
    have m1c : St1 (i + 1) c := D1.over m1 sc Z.sep2_1
    refine wpAny_pure ⟨_, rfl, ?_⟩
    have pt : IsTupOf2 (c.push { cls := .type "tuple", data := .seq #[x, y] }) c.objs.size x y := Heap.get?_push_size _ rfl
    have ps : (c.push { cls := .type "tuple", data := .seq #[x, y] }).objs.size = c.objs.size + 1 := Heap.size_push ..
    show Q (some (.ref c.objs.size)) ⟨c.push { cls := .type "tuple", data := .seq #[x, y] }, g, d, u2, os⟩
    rw [sz] at pt ps ⊢
    exact k x y _ u2 hx hy (Heap.get?_push_of_some _ hzc) (D1.frame _ _ _ m1c fun _ _ _ e => Heap.get?_push_of_some _ e) (D2.frame _ _ _ m2 fun _ _ _ e => Heap.get?_push_of_some _ e) pt ps
      fun q o q1 q2 q3 e => Heap.get?_push_of_some _ (sc.extBut _ _ q3 (sb.extBut _ _ q2 (sa.extBut _ _ q1 e)))
  unfold pyNext
  refine wpAny_bind (wpAny_attempt (wpAny_callSpecial?_slot (name := Str.ofString "__next__") ty F.slot_zip_next (wpAny_call_entry F.slot_zip_next ty F.entry_zip_next (wpAny_mono main (fun fin s' q => ?_) fun e s' q => q.elim) (F.args_zip_next_1 _))))
  obtain ⟨v, e, q⟩ := q
  exact ⟨v, e, wpAny_pure q⟩
theorem zh_done {Q : Option Value → Shared → Prop} (Z : ZipSep2 z TI TO i1 i2 fp1 fp2) (D1 : Draws prog w A.in1 i1 fp1 n1 P1 St1) (D2 : Draws prog w A.in1 i2 fp2 n2 P2 St2)
    (hz : IsZipHeld s.heap z TI TO T f) (hT : s.heap.get? T = some oT) (hTI : IsTupOf2 s.heap TI (.ref i1) (.ref i2)) (t1 : St1 i s.heap) (t2 : St2 i s.heap) (l1 : i ≤ n1) (l2 : i ≤ n2) (hend : i = n1 ∨ i = n2)
    (k : ∀ h' tk, (∀ c o, c ≠ z → c ≠ i1 → c ≠ i2 → s.heap.get? c = some o → h'.get? c = some o) → Q none { s with heap := h', toks := tk }) : wpAny (model prog w) A (pyNext (.ref z)) Q E s := by
  have ty : s.TypeIs (.ref z) "zip" := ⟨_, hz, rfl⟩
  obtain ⟨hp, g, d, tk0, os⟩ := s
  have main : wpAny (model prog w) A.in1 (Builtin.«zip.__next__» ⟨[.ref z], []⟩) (fun fin s' => False)
      (fun e s' => ∃ a h' tk, e = .ref a ∧ s' = ⟨h', g, d, tk, os⟩ ∧ (∃ o, h'.get? a = some o ∧ o.cls = .type "StopIteration") ∧ ∀ c o, c ≠ z → c ≠ i1 → c ≠ i2 → hp.get? c = some o → h'.get? c = some o) ⟨hp, g, d, tk0, os⟩ := by
    show wpAny _ _ (field (.ref z) 2 >>= _) _ _ _
    refine wpAny_bind (wpAny_field hz rfl (x := .bool false) rfl ?_)
    show wpAny _ _ (field (.ref z) 3 >>= _) _ _ _
    refine wpAny_bind (wpAny_field hz rfl (x := .ref TI) rfl ?_)
    refine wpAny_bind (wpAny_seqItems hTI rfl ?_)
    show wpAny _ _ (Builtin.SmallTypes.ownedTupleIsFree (.ref z) >>= _) _ _ _
    refine wpAny_bind (wpAny_tupleHeld_zip (s := ⟨hp, g, d, tk0, os⟩) hz hT fun a ha sa => ?_)
    replace sa : Heap.SameBut z hp a := sa
    simp only [Bool.false_eq_true, if_false]
    refine wpAny_bind ?_
    rw [← Array.forIn_toList]
    simp only [List.forIn_cons, List.forIn_nil]
    refine wpAny_bind (wpAny_bind (wpAny_holding ?_))
    show wpAny _ _ (Builtin.SmallTypes.nextOf (.ref i1) >>= _) _ _ ⟨a, g, d, tk0, os⟩
    by_cases hl : i < n1
    · refine wpAny_bind (D1.item i ⟨a, g, d, tk0, os⟩ _ _ hl (D1.over t1 sa Z.zf1) fun x b u1 hx m1 sb => wpAny_pure ?_)
      replace sb : Heap.SameBut i1 a b := sb
      have e2 : i = n2 := by omega
      refine wpAny_pure ?_
      refine wpAny_bind (wpAny_bind (wpAny_holding ?_))
      show wpAny _ _ (Builtin.SmallTypes.nextOf (.ref i2) >>= _) _ _ ⟨b, g, d, u1, os⟩
      refine wpAny_bind (D2.done ⟨b, g, d, u1, os⟩ _ _ (by rw [← e2]; exact D2.over (D2.over t2 sa Z.zf2) sb Z.sep1_2) fun c e sc he => ?_)
      exact ⟨e, c, u1, rfl, rfl, he, fun q o q1 q2 q3 x => sc _ _ q3 (sb.extBut _ _ q2 (sa.extBut _ _ q1 x))⟩
    · have e1 : i = n1 := by omega
      refine wpAny_bind (D1.done ⟨a, g, d, tk0, os⟩ _ _ (by rw [← e1]; exact D1.over t1 sa Z.zf1) fun c e sc he => ?_)
      exact ⟨e, c, tk0, rfl, rfl, he, fun q o q1 q2 q3 x => sc _ _ q2 (sa.extBut _ _ q1 x)⟩
  unfold pyNext
  refine wpAny_bind (wpAny_attempt (wpAny_callSpecial?_slot (name := Str.ofString "__next__") ty F.slot_zip_next (wpAny_call_entry F.slot_zip_next ty F.entry_zip_next (wpAny_mono main (fun fin s' q => q.elim) fun e s' q => ?_) (F.args_zip_next_1 _))))
  obtain ⟨a, h', tk, rfl, rfl, ⟨o, ho, hc⟩, kk⟩ := q
  refine wpAny_bind (wpAny_isInstance (T := "StopIteration") (b := true) ⟨o, ho, hc⟩ isSubtype_stop ?_)
  exact wpAny_pure (k h' tk kk)
end
end Cw
set_option Elab.async false
set_option linter.all false
set_option maxRecDepth 100000
set_option maxHeartbeats 1000000
/-! list(zip(a, b)): the list filled. -/
namespace Cw
open PySem PySem.Spec PyProof.Rows L2

/-- a zip on its way, at place i -/
def ZGo (h : Heap) (z TI TO i1 i2 S : Addr) (St1 St2 : Nat → Heap → Prop) (i : Nat) : Prop :=
  IsTupOf2 h TI (.ref i1) (.ref i2) ∧ St1 i h ∧ St2 i h ∧ ((IsZip h z TI TO .none ∧ ∃ x y, IsTupOf2 h TO x y) ∨ ∃ T f oT, IsZipHeld h z TI TO T f ∧ h.get? T = some oT ∧ T ≠ z ∧ T ≠ i1 ∧ T ≠ i2 ∧ T ≠ S)
/-- the pairs made so far -/
structure Pd (P1 P2 : Nat → Value → Prop) (lo : Addr) (h : Heap) (as : List Addr) : Prop where
  rise : as.Pairwise (· < ·)
  above : ∀ a ∈ as, lo < a
  pairs : ∀ (j : Nat) (a : Addr), as[j]? = some a → ∃ x y, P1 j x ∧ P2 j y ∧ IsTupOf2 h a x y
theorem Pd.there {P1 P2 : Nat → Value → Prop} {lo : Addr} {h : Heap} {as : List Addr} (g : Pd P1 P2 lo h as) {a : Addr} (ha : a ∈ as) : a < h.objs.size := by
  obtain ⟨j, hj⟩ := List.mem_iff_getElem?.mp ha
  obtain ⟨x, y, _, _, e⟩ := g.pairs j a hj
  exact Heap.lt_size e
theorem Pd.keep {P1 P2 : Nat → Value → Prop} {lo : Addr} {h h' : Heap} {as : List Addr} (g : Pd P1 P2 lo h as) (k : ∀ a ∈ as, ∀ o, h.get? a = some o → h'.get? a = some o) : Pd P1 P2 lo h' as :=
  ⟨g.rise, g.above, fun j a hj => by
    obtain ⟨x, y, p1, p2, e⟩ := g.pairs j a hj
    exact ⟨x, y, p1, p2, k a (List.mem_of_getElem? hj) _ e⟩⟩
theorem Pd.push {P1 P2 : Nat → Value → Prop} {lo : Addr} {h : Heap} {as : List Addr} (g : Pd P1 P2 lo h as) {N : Addr} {x y : Value} (hN : ∀ a ∈ as, a < N) (hl : lo < N) (p1 : P1 as.length x) (p2 : P2 as.length y) (e : IsTupOf2 h N x y) : Pd P1 P2 lo h (as ++ [N]) := by
  refine ⟨List.pairwise_append.mpr ⟨g.rise, List.pairwise_singleton _ _, fun a ha b hb => ?_⟩, fun a ha => ?_, fun j a hj => ?_⟩
  · rw [List.mem_singleton.mp hb]; exact hN a ha
  · rcases List.mem_append.mp ha with q | q
    · exact g.above a q
    · rw [List.mem_singleton.mp q]; exact hl
  · rcases Nat.lt_trichotomy j as.length with q | q | q
    · rw [List.getElem?_append_left q] at hj
      exact g.pairs j a hj
    · subst q
      have : N = a := by simpa using hj
      subst this
      exact ⟨x, y, p1, p2, e⟩
    · rw [List.getElem?_eq_none (by rw [List.length_append, List.length_singleton]; omega)] at hj
      cases hj
section
variable {prog : Program} {w : World} {A : Around} {E : Value → Shared → Prop} {s : Shared} {z TI TO S i1 i2 : Addr} {fp1 fp2 : List Addr} {n1 n2 i : Nat} {P1 P2 : Nat → Value → Prop} {St1 St2 : Nat → Heap → Prop}
theorem zg_item {Q : Option Value → Shared → Prop} (Z : ZipSep2 z TI TO i1 i2 fp1 fp2) (D1 : Draws prog w A.in1 i1 fp1 n1 P1 St1) (D2 : Draws prog w A.in1 i2 fp2 n2 P2 St2) (g : ZGo s.heap z TI TO i1 i2 S St1 St2 i) (hS : S < s.heap.objs.size) (l1 : i < n1) (l2 : i < n2)
    (k : ∀ x y h' tk, P1 i x → P2 i y → ZGo h' z TI TO i1 i2 S St1 St2 (i + 1) → IsTupOf2 h' s.heap.objs.size x y → h'.objs.size = s.heap.objs.size + 1 →
      (∀ c o, c ≠ z → c ≠ TO → c ≠ i1 → c ≠ i2 → s.heap.get? c = some o → h'.get? c = some o) → Q (some (.ref s.heap.objs.size)) { s with heap := h', toks := tk }) : wpAny (model prog w) A (pyNext (.ref z)) Q E s := by
  obtain ⟨hTI, t1, t2, hz⟩ := g
  have lt : ∀ {c o}, s.heap.get? c = some o → s.heap.objs.size ≠ c := fun e => Nat.ne_of_gt (Heap.lt_size e)
  obtain ⟨o1, e1⟩ := D1.live _ _ t1
  obtain ⟨o2, e2⟩ := D2.live _ _ t2
  rcases hz with ⟨hz, a, b, hTO⟩ | ⟨T, f, oT, hz, hT, r1, r2, r3, r4⟩
  · refine wpAny_pyNext_zipD2_item Z D1 D2 hz hTI hTO t1 t2 l1 l2 fun x y h' tk p1 p2 q1 q2 m1 m2 pt ps kk => ?_
    exact k x y h' tk p1 p2 ⟨kk _ _ Z.TIz Z.TITO Z.TIi1 Z.TIi2 hTI, m1, m2, .inr ⟨s.heap.objs.size, false, _, q1, pt, lt hz, lt e1, lt e2, Nat.ne_of_gt hS⟩⟩ pt ps kk
  · refine zh_item Z D1 D2 hz hT hTI t1 t2 l1 l2 fun x y h' tk p1 p2 q1 m1 m2 pt ps kk => ?_
    exact k x y h' tk p1 p2 ⟨kk _ _ Z.TIz Z.TIi1 Z.TIi2 hTI, m1, m2, .inr ⟨T, true, oT, q1, kk _ _ r1 r2 r3 hT, r1, r2, r3, r4⟩⟩ pt ps fun c o c1 _ c3 c4 e => kk c o c1 c3 c4 e
theorem zg_done {Q : Option Value → Shared → Prop} (Z : ZipSep2 z TI TO i1 i2 fp1 fp2) (D1 : Draws prog w A.in1 i1 fp1 n1 P1 St1) (D2 : Draws prog w A.in1 i2 fp2 n2 P2 St2) (g : ZGo s.heap z TI TO i1 i2 S St1 St2 i) (l1 : i ≤ n1) (l2 : i ≤ n2) (he : i = n1 ∨ i = n2)
    (k : ∀ h' tk, (∀ c o, c ≠ z → c ≠ TO → c ≠ i1 → c ≠ i2 → s.heap.get? c = some o → h'.get? c = some o) → Q none { s with heap := h', toks := tk }) : wpAny (model prog w) A (pyNext (.ref z)) Q E s := by
  obtain ⟨hTI, t1, t2, hz⟩ := g
  rcases hz with ⟨hz, a, b, hTO⟩ | ⟨T, f, oT, hz, hT, r1, r2, r3, r4⟩
  · exact wpAny_pyNext_zipD2_end Z D1 D2 hz hTI hTO t1 t2 l1 l2 he k
  · exact zh_done Z D1 D2 hz hT hTI t1 t2 l1 l2 he fun h' tk kk => k h' tk fun c o c1 _ c3 c4 e => kk c o c1 c3 c4 e
theorem ZGo.over (Z : ZipSep2 z TI TO i1 i2 fp1 fp2) (D1 : Draws prog w A.in1 i1 fp1 n1 P1 St1) (D2 : Draws prog w A.in1 i2 fp2 n2 P2 St2) {h h' : Heap} (g : ZGo h z TI TO i1 i2 S St1 St2 i) (hz : S ≠ z) (hI : S ≠ TI) (hO : S ≠ TO) (f1 : S ∉ fp1) (f2 : S ∉ fp2) (k : ∀ b o, b ≠ S → h.get? b = some o → h'.get? b = some o) : ZGo h' z TI TO i1 i2 S St1 St2 i := by
  obtain ⟨hTI, t1, t2, q⟩ := g
  refine ⟨k _ _ (Ne.symm hI) hTI, D1.frame _ _ _ t1 fun b hb o e => k b o (fun q => f1 (q ▸ hb)) e, D2.frame _ _ _ t2 fun b hb o e => k b o (fun q => f2 (q ▸ hb)) e, ?_⟩
  rcases q with ⟨q, a, b, hTO⟩ | ⟨T, f, oT, q, hT, r1, r2, r3, r4⟩
  · exact .inl ⟨k _ _ (Ne.symm hz) q, a, b, k _ _ (Ne.symm hO) hTO⟩
  · exact .inr ⟨T, f, oT, k _ _ (Ne.symm hz) q, k _ _ r4 hT, r1, r2, r3, r4⟩
/-- the rest of the list -/
theorem zl_loop {R : Result → Shared → Prop} (Z : ZipSep2 z TI TO i1 i2 fp1 fp2) (D1 : Draws prog w A.in1.in1 i1 fp1 n1 P1 St1) (D2 : Draws prog w A.in1.in1 i2 fp2 n2 P2 St2) (nz : S ≠ z) (nI : S ≠ TI) (nO : S ≠ TO) (f1 : S ∉ fp1) (f2 : S ∉ fp2) (hn : min n1 n2 ≤ sizeLine) (res : Value) {h₁ : Heap}
    (low : z < S ∧ TO < S ∧ i1 < S ∧ i2 < S)
    (hR : ∀ h' tk acc c as, (∀ b o, b ≠ S → b ≠ z → b ≠ TO → b ≠ i1 → b ≠ i2 → h₁.get? b = some o → h'.get? b = some o) → h'.get? S = some { cls := .type "list", dict := none, data := .seq acc c, slots := #[] } → as.length = min n1 n2 → Pd P1 P2 S h' as → acc.toList = as.map Value.ref →
      R (.ok (.ret res)) { s with heap := h', toks := tk }) :
    ∀ (m i : Nat) (h : Heap) (tk c : Nat) (acc : Array Value) (as : List Addr), min n1 n2 - i = m → i ≤ min n1 n2 → ZGo h z TI TO i1 i2 S St1 St2 i → (∀ b o, b ≠ S → b ≠ z → b ≠ TO → b ≠ i1 → b ≠ i2 → h₁.get? b = some o → h.get? b = some o) →
      h.get? S = some { cls := .type "list", dict := none, data := .seq acc c, slots := #[] } → acc.toList = as.map Value.ref → as.length = i → Pd P1 P2 S h as →
      codeAny (model prog w) A (.builtin "list.extend.loop" ⟨[.ref S, .ref z, res], []⟩) R { s with heap := h, toks := tk } := by
  intro m
  have hi1 : S ≠ i1 := fun q => f1 (q ▸ Z.mem1)
  have hi2 : S ≠ i2 := fun q => f2 (q ▸ Z.mem2)
  obtain ⟨lz, lO, li1, li2⟩ := low
  induction m with
  | zero =>
    intro i h tk c acc as hk hi hg keep hS hacc hal hG
    have hin : i = min n1 n2 := by omega
    refine codeAny_builtin PySem.F.entry_extend_loop ?_
    rw [Around.under_plainId PySem.F.plain_extend_loop _]
    show wpAny _ A.in1 (pyNext (.ref z) >>= _) _ _ _
    refine wpAny_bind (zg_done (s := { s with heap := h, toks := tk }) Z D1 D2 hg (by omega) (by omega) (by omega) fun h' tk' kk => ?_)
    have up : ∀ a ∈ as, ∀ o, h.get? a = some o → h'.get? a = some o := fun a ha o e => by
      have := hG.above a ha
      exact kk a o (Nat.ne_of_gt (Nat.lt_trans lz this)) (Nat.ne_of_gt (Nat.lt_trans lO this)) (Nat.ne_of_gt (Nat.lt_trans li1 this)) (Nat.ne_of_gt (Nat.lt_trans li2 this)) e
    exact wpAny_pure (hR h' tk' acc c as (fun b o q1 q2 q3 q4 q5 e => kk b o q2 q3 q4 q5 (keep b o q1 q2 q3 q4 q5 e)) (kk S _ nz nO hi1 hi2 hS) (by omega) (hG.keep up) hacc)
  | succ m ih =>
    intro i h tk c acc as hk hi hg keep hS hacc hal hG
    have hlt : i < min n1 n2 := by omega
    have hsz : acc.size = i := by rw [← Array.length_toList, hacc, List.length_map, hal]
    have hSl : S < h.objs.size := Heap.lt_size hS
    refine codeAny_builtin PySem.F.entry_extend_loop ?_
    rw [Around.under_plainId PySem.F.plain_extend_loop _]
    show wpAny _ A.in1 (pyNext (.ref z) >>= _) _ _ _
    refine wpAny_bind (zg_item (s := { s with heap := h, toks := tk }) Z D1 D2 hg hSl (by omega) (by omega) fun x y h' tk' p1 p2 hg' pt ps kk => ?_)
    dsimp only at pt ps kk ⊢
    have hS' := kk S _ nz nO hi1 hi2 hS
    have up : ∀ b o, b ≠ S → h'.get? b = some o → (h'.update S (Obj.mapSeq (·.push (Value.ref h.objs.size)))).get? b = some o := fun b o hb e => (Heap.get?_update_other _ _ (Ne.symm hb)).trans e
    show wpAny _ A.in1 (updateSeq S (·.push (Value.ref h.objs.size)) >>= _) _ _ _
    refine wpAny_bind ?_
    refine wpAny_updateSeq (s := { s with heap := h', toks := tk' }) hS' rfl (wpAny_pure ⟨plainId_quiet PySem.F.plain_extend_loop _, ih (i + 1) _ tk' _ (acc.push (Value.ref h.objs.size)) (as ++ [h.objs.size]) (by omega) hlt (hg'.over Z D1 D2 nz nI nO f1 f2 up)
      (fun b o q1 q2 q3 q4 q5 e => up b o q1 (kk b o q2 q3 q4 q5 (keep b o q1 q2 q3 q4 q5 e))) (Heap.get?_update_self _ hS' rfl) (by rw [Array.toList_push, hacc, List.map_append]; rfl) (by rw [List.length_append, hal]; rfl) ?_⟩) (by rw [hsz]; omega) (by show (acc.push (Value.ref h.objs.size)).size ≤ sizeLine + 1; rw [Array.size_push, hsz]; omega)
    refine Pd.push (hG.keep fun a ha o e => ?_) (fun a ha => hG.there ha) hSl (by rw [hal]; exact p1) (by rw [hal]; exact p2) (up _ _ (Nat.ne_of_gt hSl) pt)
    have := hG.above a ha
    exact up a o (Nat.ne_of_gt this) (kk a o (Nat.ne_of_gt (Nat.lt_trans lz this)) (Nat.ne_of_gt (Nat.lt_trans lO this)) (Nat.ne_of_gt (Nat.lt_trans li1 this)) (Nat.ne_of_gt (Nat.lt_trans li2 this)) e)
end
end Cw
set_option Elab.async false
set_option linter.all false
set_option maxRecDepth 100000
set_option maxHeartbeats 1000000
/-! list(zip(a, b)): the call. -/
namespace Cw
open PySem PySem.Spec PyProof.Rows L2

theorem zl_nolen : typeLookup (.type "zip") "__len__" = pure none := by rw [typeLookup_type, builtinLookup_eq_fast]; kernel_rfl
theorem zl_nohint : typeLookup (.type "zip") "__length_hint__" = pure none := by rw [typeLookup_type, builtinLookup_eq_fast]; kernel_rfl
section
variable {prog : Program} {w : World} {A : Around} {E : Value → Shared → Prop} {s : Shared} {z TI TO S i1 i2 : Addr} {fp1 fp2 : List Addr} {n1 n2 i : Nat} {P1 P2 : Nat → Value → Prop} {St1 St2 : Nat → Heap → Prop} {x0 y0 : Value}
theorem zl_extend {R : Result → Shared → Prop} (Z : ZipSep2 z TI TO i1 i2 fp1 fp2) (D1 : Draws prog w A.in1.in1 i1 fp1 n1 P1 St1) (D2 : Draws prog w A.in1.in1 i2 fp2 n2 P2 St2) (nz : S ≠ z) (nI : S ≠ TI) (nO : S ≠ TO) (f1 : S ∉ fp1) (f2 : S ∉ fp2) (hn : min n1 n2 ≤ sizeLine) (res : Value)
    (low : z < S ∧ TO < S ∧ i1 < S ∧ i2 < S) (hz : IsZip s.heap z TI TO .none) (hTI : IsTupOf2 s.heap TI (.ref i1) (.ref i2)) (hTO : IsTupOf2 s.heap TO x0 y0) (t1 : St1 0 s.heap) (t2 : St2 0 s.heap) (c₀ : Nat)
    (hS : s.heap.get? S = some { cls := .type "list", data := .seq #[] c₀ })
    (hR : ∀ h' tk acc c as, (∀ b o, b ≠ S → b ≠ z → b ≠ TO → b ≠ i1 → b ≠ i2 → s.heap.get? b = some o → h'.get? b = some o) → h'.get? S = some { cls := .type "list", dict := none, data := .seq acc c, slots := #[] } → as.length = min n1 n2 → Pd P1 P2 S h' as → acc.toList = as.map Value.ref →
      R (.ok (.ret res)) { s with heap := h', toks := tk }) :
    wpAny (model prog w) A.in1 (Builtin.List.listExtendWith (.ref S) (.ref z) res) (fun fin s' => match fin with | .done f => R (.ok f) s' | .again c' => c'.quiet = true ∧ codeAny (model prog w) A c' R s') (fun e s' => R (.error e) s') s := by
  have ty : s.TypeIs (.ref z) "zip" := ⟨_, hz, rfl⟩
  have g0 : ZGo s.heap z TI TO i1 i2 S St1 St2 0 := ⟨hTI, t1, t2, .inl ⟨hz, _, _, hTO⟩⟩
  have d1 : Builtin.List.listSameRef (.ref S) (.ref z) = false := by simp [Builtin.List.listSameRef, nz]
  have d2 : (Value.type "zip" == Value.type "list") = false := by decide
  have d3 : (Value.type "zip" == Value.type "tuple") = false := by decide
  unfold Builtin.List.listExtendWith
  refine wpAny_bind (wpAny_typeOf ty ?_)
  simp only [d1, d2, d3, Bool.or_false, Bool.false_eq_true, if_false]
  refine wpAny_bind (wpAny_pyIter_zip hz ?_)
  refine wpAny_bind (wpAny_holding ?_)
  unfold Builtin.List.listLengthHint
  refine wpAny_bind (wpAny_specialOf ty zl_nolen ?_)
  show wpAny _ A.in1 (specialOf (Value.ref z) (Str.ofString "__length_hint__") >>= _) _ _ _
  refine wpAny_bind (wpAny_specialOf ty zl_nohint ?_)
  refine wpAny_pure ?_
  show wpAny _ A.in1 (rule "list.extend.makes-room" >>= fun _ => Builtin.List.listTouch (.ref S) >>= fun _ => again (.builtin "list.extend.loop" ⟨[.ref S, .ref z, res], []⟩)) _ _ _
  refine wpAny_bind (wpAny_rule ?_)
  refine wpAny_bind ?_
  show wpAny _ A.in1 (updateSeq S (·.push .none) >>= fun _ => updateSeq S (·.pop)) _ _ _
  refine wpAny_bind (wpAny_updateSeq hS rfl ?_)
  have hS2 := Heap.get?_update_self (Obj.mapSeq (·.push Value.none)) hS rfl
  refine wpAny_updateSeq (hz := by seq_fits) hS2 rfl ?_
  have hS3 := Heap.get?_update_self (Obj.mapSeq (·.pop)) hS2 rfl
  have up : ∀ b o, b ≠ S → s.heap.get? b = some o → ((s.heap.update S (Obj.mapSeq (·.push Value.none))).update S (Obj.mapSeq (·.pop))).get? b = some o :=
    fun b o hb e => (Heap.get?_update_other _ _ (Ne.symm hb)).trans ((Heap.get?_update_other _ _ (Ne.symm hb)).trans e)
  exact wpAny_pure ⟨plainId_quiet PySem.F.plain_extend_loop _, zl_loop Z D1 D2 nz nI nO f1 f2 hn res (h₁ := s.heap) low hR (min n1 n2) 0 _ s.toks _ #[] [] rfl (Nat.zero_le _) (g0.over Z D1 D2 nz nI nO f1 f2 up) (fun b o q1 _ _ _ _ e => up b o q1 e) hS3 rfl rfl
    ⟨List.Pairwise.nil, (fun _ ha => nomatch ha), fun j a hj => by simp at hj⟩⟩
theorem zl_init {R : Result → Shared → Prop} (Z : ZipSep2 z TI TO i1 i2 fp1 fp2) (D1 : Draws prog w A.in1.in1 i1 fp1 n1 P1 St1) (D2 : Draws prog w A.in1.in1 i2 fp2 n2 P2 St2) (nz : S ≠ z) (nI : S ≠ TI) (nO : S ≠ TO) (f1 : S ∉ fp1) (f2 : S ∉ fp2) (hn : min n1 n2 ≤ sizeLine)
    (low : z < S ∧ TO < S ∧ i1 < S ∧ i2 < S) (hz : IsZip s.heap z TI TO .none) (hTI : IsTupOf2 s.heap TI (.ref i1) (.ref i2)) (hTO : IsTupOf2 s.heap TO x0 y0) (t1 : St1 0 s.heap) (t2 : St2 0 s.heap)
    (hS : s.heap.get? S = some { cls := .type "list", data := .seq #[] })
    (hR : ∀ h' tk acc c as, (∀ b o, b ≠ S → b ≠ z → b ≠ TO → b ≠ i1 → b ≠ i2 → s.heap.get? b = some o → h'.get? b = some o) → h'.get? S = some { cls := .type "list", dict := none, data := .seq acc c, slots := #[] } → as.length = min n1 n2 → Pd P1 P2 S h' as → acc.toList = as.map Value.ref →
      R (.ok (.ret .none)) { s with heap := h', toks := tk }) :
    wpAny (model prog w) A.in1 (Builtin.«list.__init__» ⟨[.ref S, .ref z], []⟩) (fun fin s' => match fin with | .done f => R (.ok f) s' | .again c' => c'.quiet = true ∧ codeAny (model prog w) A c' R s') (fun e s' => R (.error e) s') s := by
  show wpAny _ A.in1 (do let old ← Builtin.List.listItems (.ref S); Builtin.List.listUpdate (.ref S) (fun _ => #[]); letGo old.toList.reverse; Builtin.List.listExtendWith (.ref S) (.ref z) .none) _ _ s
  refine wpAny_bind ?_
  unfold Builtin.List.listItems
  refine wpAny_bind (wpAny_seqItems hS rfl (wpAny_pure ?_))
  show wpAny _ A.in1 (updateSeq S (fun _ => #[]) >>= fun _ => letGo (#[] : Array Value).toList.reverse >>= fun _ => Builtin.List.listExtendWith (.ref S) (.ref z) .none) _ _ s
  refine wpAny_bind (wpAny_updateSeq hS rfl ?_)
  have hS2 := Heap.get?_update_self (Obj.mapSeq (fun _ => (#[] : Array Value))) hS rfl
  have up : ∀ b o, b ≠ S → s.heap.get? b = some o → (s.heap.update S (Obj.mapSeq (fun _ => (#[] : Array Value)))).get? b = some o := fun b o hb e => (Heap.get?_update_other _ _ (Ne.symm hb)).trans e
  refine wpAny_bind (wpAny_letGo ?_)
  refine zl_extend Z D1 D2 nz nI nO f1 f2 hn .none low (up _ _ (Ne.symm nz) hz) (up _ _ (Ne.symm nI) hTI) (up _ _ (Ne.symm nO) hTO) (D1.frame _ _ _ t1 fun b hb o e => up b o (fun q => f1 (q ▸ hb)) e) (D2.frame _ _ _ t2 fun b hb o e => up b o (fun q => f2 (q ▸ hb)) e) _ hS2 fun h' tk acc c as k hS' hl hG hacc => ?_
  exact hR h' tk acc c as (fun b o q1 q2 q3 q4 q5 e => k b o q1 q2 q3 q4 q5 (up b o q1 e)) hS' hl hG hacc
theorem zl_call {Q : Value → Shared → Prop} (Z : ZipSep2 z TI TO i1 i2 fp1 fp2) (D1 : Draws prog w A.in1.in1.in1 i1 fp1 n1 P1 St1) (D2 : Draws prog w A.in1.in1.in1 i2 fp2 n2 P2 St2) (hn : min n1 n2 ≤ sizeLine) (hf : ∀ b ∈ fp1 ++ fp2, b < s.heap.objs.size)
    (hz : IsZip s.heap z TI TO .none) (hTI : IsTupOf2 s.heap TI (.ref i1) (.ref i2)) (hTO : IsTupOf2 s.heap TO x0 y0) (t1 : St1 0 s.heap) (t2 : St2 0 s.heap)
    (hQ : ∀ h' tk acc c as, (∀ b o, b ≠ z → b ≠ TO → b ≠ i1 → b ≠ i2 → s.heap.get? b = some o → h'.get? b = some o) → h'.get? s.heap.objs.size = some { cls := .type "list", dict := none, data := .seq acc c, slots := #[] } → as.length = min n1 n2 → Pd P1 P2 s.heap.objs.size h' as → acc.toList = as.map Value.ref →
      Q (.ref s.heap.objs.size) { s with heap := h', toks := tk }) : wpAny (model prog w) A (call (.type "list") [.ref z]) Q E s := by
  have lz : z < s.heap.objs.size := Heap.lt_size hz
  have lI : TI < s.heap.objs.size := Heap.lt_size hTI
  have lO : TO < s.heap.objs.size := Heap.lt_size hTO
  have l1 : i1 < s.heap.objs.size := hf _ (List.mem_append_left _ Z.mem1)
  have l2 : i2 < s.heap.objs.size := hf _ (List.mem_append_right _ Z.mem2)
  refine callType_codes (Q₁ := fun obj s₁ => obj = .ref s.heap.objs.size ∧ s₁ = { s with heap := s.heap.push { cls := .type "list", data := .seq #[] } }) PySem.F.called_list (PySem.F.typeCall_list_1 _) PySem.F.entry_list_init (code_list_new _ ⟨rfl, rfl⟩) fun obj s1 q => ?_
  obtain ⟨rfl, rfl⟩ := q
  have hS : (s.heap.push { cls := .type "list", data := .seq #[] }).get? s.heap.objs.size = some { cls := .type "list", data := .seq #[] } := Heap.get?_push_size _ rfl
  have up : ∀ b o, s.heap.get? b = some o → (s.heap.push { cls := .type "list", data := .seq #[] }).get? b = some o := fun b o e => Heap.get?_push_of_some _ e
  refine ⟨⟨_, hS, rfl⟩, PySem.F.args_list_init_2 _ _, zl_init Z D1 D2 (Nat.ne_of_gt lz) (Nat.ne_of_gt lI) (Nat.ne_of_gt lO) (fun q => Nat.lt_irrefl _ (hf _ (List.mem_append_left _ q))) (fun q => Nat.lt_irrefl _ (hf _ (List.mem_append_right _ q))) hn ⟨lz, lO, l1, l2⟩ (up _ _ hz) (up _ _ hTI) (up _ _ hTO)
    (D1.frame _ _ _ t1 fun b _ o e => up b o e) (D2.frame _ _ _ t2 fun b _ o e => up b o e) hS fun h' tk acc c as k hS' hl hG hacc => ?_⟩
  exact ⟨rfl, hQ h' tk acc c as (fun b o q2 q3 q4 q5 e => k b o (Nat.ne_of_lt (Heap.lt_size e)) q2 q3 q4 q5 (up b o e)) hS' hl hG hacc⟩
end
end Cw
set_option Elab.async false
set_option linter.all false
set_option maxRecDepth 100000
set_option maxHeartbeats 2000000
/-! list(zip(a, b)): the pairs laid, the rule. -/
namespace Cw
open PySem PySem.Spec PyProof.Rows L2

def putZ : Hp → List Addr → List (Obj × V × V) → Hp
  | H, a :: as, q :: qs => putZ (upd H a (.frz q.1 (.tup [q.2.1, q.2.2]))) as qs
  | H, _, _ => H
theorem putZ_off {b : Addr} : ∀ (as : List Addr) (qs : List (Obj × V × V)) (H : Hp), b ∉ as → putZ H as qs b = H b
  | [], _, _, _ => rfl
  | _ :: _, [], _, _ => rfl
  | a :: as, q :: qs, H, h => by
    have hne : b ≠ a := fun z => h (by rw [z]; exact List.mem_cons_self)
    rw [putZ, putZ_off as qs _ fun z => h (List.mem_cons_of_mem _ z), upd_ne hne]
theorem putZ_at : ∀ (as : List Addr) (qs : List (Obj × V × V)) (H : Hp), as.Nodup → ∀ {j : Nat} {a : Addr} {q : Obj × V × V}, as[j]? = some a → qs[j]? = some q → putZ H as qs a = some (.frz q.1 (.tup [q.2.1, q.2.2]))
  | [], _, _, _, _, _, _, h, _ => by simp at h
  | _ :: _, [], _, _, _, _, _, _, h => by simp at h
  | a :: as, q :: qs, H, nd, 0, _, _, h1, h2 => by
    simp at h1 h2
    subst h1 h2
    rw [putZ, putZ_off as qs _ (List.nodup_cons.mp nd).1, upd_same]
  | a :: as, q :: qs, H, nd, j + 1, _, _, h1, h2 => by
    rw [putZ]
    exact putZ_at as qs _ (List.nodup_cons.mp nd).2 (j := j) (by simpa using h1) (by simpa using h2)
theorem putZ_ok {K : PySem.W.Frag} {ι : Lk} {S : Sto} : ∀ (as : List Addr) (qs : List (Obj × V × V)) (zs : List (P × P)) (H : Hp), as.length = qs.length → qs.length = zs.length → as.Nodup → (∀ a ∈ as, H a = none) → (∀ q ∈ qs, q.1.dict = none) → Wd K ι H S →
    (∀ (j : Nat) (q : Obj × V × V) (z : P × P), qs[j]? = some q → zs[j]? = some z → RPs K ι H [q.2.1, q.2.2] [z.1, z.2]) →
    Step ι H ι (putZ H as qs) ∧ Wd K ι (putZ H as qs) S ∧ RPs K ι (putZ H as qs) (as.map V.ref) (zs.map fun z => P.tup [z.1, z.2])
  | [], [], [], H, _, _, _, _, _, wd, _ => ⟨.refl _ _, wd, .nil⟩
  | [], _ :: _, _, _, h, _, _, _, _, _, _ => by cases h
  | _ :: _, [], _, _, h, _, _, _, _, _, _ => by cases h
  | [], [], _ :: _, _, _, h, _, _, _, _, _ => by cases h
  | _ :: _, _ :: _, [], _, _, h, _, _, _, _, _ => by cases h
  | a :: as, q :: qs, z :: zs, H, h1, h2, nd, hn, hd, wd, r => by
    have nd' := List.nodup_cons.mp nd
    obtain ⟨st, wd1, rt⟩ := pair_new wd (hn a List.mem_cons_self) (hd q List.mem_cons_self) (r 0 q z rfl rfl)
    obtain ⟨st2, wd2, rr⟩ := putZ_ok as qs zs _ (Nat.succ.inj h1) (Nat.succ.inj h2) nd'.2 (fun b hb => by
      have hne : b ≠ a := fun e => nd'.1 (by rw [← e]; exact hb)
      rw [upd_ne hne]
      exact hn b (List.mem_cons_of_mem _ hb)) (fun p hp => hd p (List.mem_cons_of_mem _ hp)) wd1 fun j p y e1 e2 => (r (j + 1) p y (by simpa using e1) (by simpa using e2)).mono st
    exact ⟨st.trans st2, wd2, .cons (rt.mono st2) rr⟩
section
variable {X : Cx} {pins : List (Addr × Obj)} {σ : L2.St} {H : Hp} {s : Shared}
theorem zl_laid {h' : Heap} {tk c : Nat} {acc : Array Value} {as : List Addr} {S : Addr} {us ws : List Value} {xs ys : List V} (I : Inv X pins σ H s) (kp : ∀ b o, s.heap.get? b = some o → h'.get? b = some o) (hSn : s.heap.objs.size ≤ S)
    (hS : h'.get? S = some { cls := .type "list", dict := none, data := .seq acc c, slots := #[] }) (ru : Vals xs us) (rw' : Vals ys ws) (hl : as.length = min us.length ws.length) (hz : min us.length ws.length ≤ sizeLine)
    (hG : Pd (fun i v => us[i]? = some v) (fun i v => ws[i]? = some v) S h' as) (hacc : acc.toList = as.map Value.ref) :
    ∃ qs : List (Obj × V × V), qs.length = as.length ∧ (∀ a ∈ as, H a = none) ∧ as.Nodup ∧ H S = none ∧ S ∉ as ∧ (∀ q ∈ qs, q.1.dict = none) ∧ (∀ (j : Nat) (q : Obj × V × V), qs[j]? = some q → xs[j]? = some q.2.1 ∧ ys[j]? = some q.2.2) ∧
      Inv X pins σ (upd (putZ H as qs) S (.lst (as.map V.ref))) { s with heap := h', toks := tk } := by
  have nd : as.Nodup := List.Pairwise.imp (fun {a b} (h : a < b) => Nat.ne_of_lt h) hG.rise
  have hSa : S ∉ as := fun z => Nat.lt_irrefl _ (hG.above _ z)
  have new : ∀ t ∈ as, H t = none := fun t ht => I.hok.fresh (Nat.le_of_lt (Nat.lt_of_le_of_lt hSn (hG.above t ht)))
  have newS : H S = none := I.hok.fresh hSn
  let mkq : Nat → Obj × V × V := fun j => ({ cls := .type "tuple", data := .seq #[us.getD j .none, ws.getD j .none] }, xs.getD j .non, ys.getD j .non)
  refine ⟨(List.range as.length).map mkq, by simp, new, nd, newS, hSa, fun q hq => ?_, fun j q hq => ?_, ?_⟩
  · obtain ⟨j, _, rfl⟩ := List.mem_map.mp hq
    rfl
  · rw [List.getElem?_map] at hq
    have hj : j < as.length := by
      rcases Nat.lt_or_ge j as.length with q1 | q1
      · exact q1
      · rw [List.getElem?_eq_none (by simpa using q1)] at hq; cases hq
    rw [List.getElem?_range hj] at hq
    cases hq
    have e1 : j < xs.length := by rw [ru.length]; omega
    have e2 : j < ys.length := by rw [rw'.length]; omega
    exact ⟨by simp [mkq, e1], by simp [mkq, e2]⟩
  · have qat : ∀ (j : Nat) (a : Addr), as[j]? = some a → ((List.range as.length).map mkq)[j]? = some (mkq j) := fun j a e => by
      obtain ⟨hj, _⟩ := List.getElem?_eq_some_iff.mp e
      rw [List.getElem?_map, List.getElem?_range hj]; rfl
    generalize (List.range as.length).map mkq = qs at qat
    have off : ∀ b, b ∉ as → b ≠ S → upd (putZ H as qs) S (.lst (as.map V.ref)) b = H b := fun b h1 h2 => by rw [upd_ne h2, putZ_off as qs _ h1]
    have low : ∀ b o, s.heap.get? b = some o → b ∉ as ∧ b ≠ S := fun b o e => ⟨fun z => absurd (Heap.lt_size e) (Nat.not_lt.mpr (Nat.le_trans hSn (Nat.le_of_lt (hG.above b z)))), fun z => absurd (Heap.lt_size e) (Nat.not_lt.mpr (z ▸ hSn))⟩
    have kpH : ∀ b u, H b = some u → upd (putZ H as qs) S (.lst (as.map V.ref)) b = some u := fun b u e => by
      rw [off b (fun z => by rw [new b z] at e; cases e) (fun z => by rw [z, newS] at e; cases e)]
      exact e
    refine I.call' (ch := []) rfl ⟨fun b o q _ _ _ => kp b o q, fun b o q _ _ _ => ⟨o.slots, kp b o q⟩, fun b o q n _ => ?_, fun b o q _ => ⟨o, kp b o q⟩, fun b xs q => kpH b _ q, fun b o u q => kpH b _ q, fun b ps q => ⟨#[], by rw [kpH b _ q]; simp⟩⟩ (fun b u q => ?_) I.bare fun b z => by simp at z
    · obtain ⟨z1, z2⟩ := low b o q
      rw [off b z1 z2]
      exact n
    · by_cases hb2 : b = S
      · rw [hb2, upd_same] at q
        rw [hb2]
        cases q
        refine ⟨by rw [List.length_map, hl]; exact hz, acc.toList, c, by rw [hacc]; exact LiI.vals_refs as, ?_⟩
        rw [Array.toArray_toList]
        exact hS
      · by_cases hb : b ∈ as
        · obtain ⟨j, hj⟩ := List.mem_iff_getElem?.mp hb
          rw [upd_ne hb2, putZ_at as qs H nd hj (qat j b hj)] at q
          cases q
          obtain ⟨x, y, p1, p2, pt⟩ := hG.pairs j b hj
          have g1 : us.getD j .none = x := by rw [List.getD_eq_getElem?_getD, p1]; rfl
          have g2 : ws.getD j .none = y := by rw [List.getD_eq_getElem?_getD, p2]; rfl
          obtain ⟨u1, f1⟩ : ∃ v, xs[j]? = some v := by
            obtain ⟨q1, _⟩ := List.getElem?_eq_some_iff.mp p1
            exact ⟨_, List.getElem?_eq_getElem (by rw [ru.length]; exact q1)⟩
          obtain ⟨u2, f2⟩ : ∃ v, ys[j]? = some v := by
            obtain ⟨q1, _⟩ := List.getElem?_eq_some_iff.mp p2
            exact ⟨_, List.getElem?_eq_getElem (by rw [rw'.length]; exact q1)⟩
          obtain ⟨m1, e1, r1⟩ := ru.get f1
          obtain ⟨m2, e2, r2⟩ := rw'.get f2
          rw [p1] at e1; cases e1
          rw [p2] at e2; cases e2
          have d1 : xs.getD j .non = u1 := by rw [List.getD_eq_getElem?_getD, f1]; rfl
          have d2 : ys.getD j .non = u2 := by rw [List.getD_eq_getElem?_getD, f2]; rfl
          show ObjOk _ _ _ _ _ (.frz { cls := .type "tuple", data := .seq #[us.getD j .none, ws.getD j .none] } (.tup [xs.getD j .non, ys.getD j .non]))
          rw [g1, g2, d1, d2]
          exact ⟨pt, by show 2 ≤ sizeLine; decide, [x, y], .cons r1 (.cons r2 .nil), ⟨_, pt, rfl, _, rfl⟩⟩
        · rw [off b hb hb2] at q
          exact (I.hok b u q).stay (fun d v _ y => kp d v y) (fun d y => kpH d _ y) fun d xs y => kpH d _ y
end
end Cw
set_option Elab.async false
set_option linter.all false
set_option maxRecDepth 100000
set_option maxHeartbeats 2000000
/-! list(zip(a, b)): the rule. -/
namespace Cw
open PySem PySem.Spec PyProof.Rows L2

theorem seqXz {X : Cx} {pins : List (Addr × Obj)} {σ : L2.St} {H : Hp} {s : Shared} {t : Bool} {a : Addr} {xs : List V} (I : L2.Inv X pins σ H s) (h : SqX t X.K H a xs) : ∃ its : List Value, Vals xs its ∧ InX t s.heap a its.toArray ∧ its.length ≤ sizeLine := by
  cases t with
  | false => obtain ⟨its, r, p, z⟩ := I.list h; exact ⟨its, r, p.isList, by rw [← r.length]; exact z⟩
  | true => obtain ⟨its, r, p, z⟩ := I.tuple h; exact ⟨its, r, p, by rw [← r.length]; exact z⟩
def tZipL (t : Bool) (K : PySem.W.Frag) (ta : TA) : TE := fun σ H Q => ta σ H fun vs H1 => ∃ a b xs ys, vs = [.ref a, .ref b] ∧ SqX t K H1 a xs ∧ SqX t K H1 b ys ∧
  ∀ (p : Addr) (as : List Addr) (qs : List (Obj × V × V)), as.length = min xs.length ys.length → qs.length = as.length → (∀ a ∈ as, H1 a = none) → as.Nodup → H1 p = none → p ∉ as → (∀ q ∈ qs, q.1.dict = none) →
    (∀ (j : Nat) (q : Obj × V × V), qs[j]? = some q → xs[j]? = some q.2.1 ∧ ys[j]? = some q.2.2) → Q (.ref p) (upd (putZ H1 as qs) p (.lst (as.map V.ref)))
theorem pe_zipL {X : Cx} {e e2 : Expr} {ta : TA} {p p2 cpos pos : Pos} (t : Bool) (hc : X.calm = true) (hg : Gl X "list") (hm : X.mg "list" = none) (hg2 : Gl X "zip") (hm2 : X.mg "zip" = none) (ha : PA X [e, e2] ta)
    (hs : starEach [e, e2] X.env = (false, eval e X.env) :: starEach [e2] X.env := by rfl) (hpl : (backTo cpos (starEach [e2] X.env)).any (·.1) = false := by rfl)
    (hs2 : starEach [.Call (.Name "zip" p2) [e, e2] [] cpos] X.env = (false, eval (.Call (.Name "zip" p2) [e, e2] [] cpos) X.env) :: starEach [] X.env := by rfl) :
    PE X (.Call (.Name "list" p) [.Call (.Name "zip" p2) [e, e2] [] cpos] [] pos) (tZipL t X.K ta) := by
  refine ⟨fun pins s σ H Q I hq => ?_⟩
  refine wpAny_Call_Name_kw (ld_blt I hg hm rfl ?_)
  refine PyProof.Rows.callWith_type1 ?_ hs2 rfl
  rw [hs2]
  show wpAny _ _ (spliced ((false, eval (.Call (.Name "zip" p2) [e, e2] [] cpos) X.env) :: backTo pos (starEach [] X.env))) _ _ s
  refine Calls.spliced_cons ?_
  refine wpAny_Call_Name_kw (ld_blt I hg2 hm2 PyProof.Rows.boot_zip ?_)
  refine PyProof.Rows.callWith_type1 (thn (ha.run cpos pins s σ H _ I hq) fun us s1 ⟨vs, H1, I1, r1, a, b, xs, ys, ex, hqx, hqy, q⟩ => ?_) hs hpl
  subst ex
  cases r1 with
  | cons r rr =>
    obtain ⟨u, rfl, r'⟩ := vals1 rr
    cases r
    cases r'
    obtain ⟨its, rv, p1, z1⟩ := seqXz I1 hqx
    obtain ⟨its2, rv2, p2, z2⟩ := seqXz I1 hqy
    have l1 : a < s1.heap.objs.size := by obtain ⟨o, n, e, _⟩ := p1.obj; exact Heap.lt_size e
    have l2 : b < s1.heap.objs.size := by obtain ⟨o, n, e, _⟩ := p2.obj; exact Heap.lt_size e
    refine call_zipX p1 p2 fun h' hz hTI hTO h1 h2 hk => ?_
    refine Calls.spliced_nil ?_
    obtain ⟨o1, e1, v1, d1⟩ := h1.obj
    obtain ⟨o2, e2', v2, d2⟩ := h2.obj
    have p1' : InX t h' a its.toArray := p1.at fun o q => hk a o q
    have p2' : InX t h' b its2.toArray := p2.at fun o q => hk b o q
    have hh : X.A.in1.in1.in1.handled = none := I1.ok.hd hc
    have D1 := drawsX (prog := X.prog) (w := X.w) hh t s1.heap.objs.size a (Ne.symm (apartX p1' e1 d1)) its.toArray
    have D2 := drawsX (prog := X.prog) (w := X.w) hh t (s1.heap.objs.size + 1) b (Ne.symm (apartX p2' e2' d2)) its2.toArray
    have lz : s1.heap.objs.size + 4 < h'.objs.size := Heap.lt_size hz
    refine zl_call (s := { s1 with heap := h' }) (sepX (PySem.W.ktu_apart s1.heap.objs.size a b l1 l2)) D1 D2 (by rw [List.size_toArray]; exact Nat.le_trans (Nat.min_le_left _ _) z1) (fun c hcm => ?_) hz hTI hTO ⟨h1, p1'⟩ ⟨h2, p2'⟩ fun h2' tk acc c as kk hS hl hG hacc => ?_
    · simp only [List.mem_append, List.mem_cons, List.not_mem_nil, or_false] at hcm
      show c < h'.objs.size
      rcases hcm with (q1 | q1) | (q1 | q1) <;> rw [q1]
      · exact Heap.lt_size e1
      · exact Nat.lt_trans l1 (Nat.lt_trans (Nat.lt_add_of_pos_right (by decide)) lz)
      · exact Heap.lt_size e2'
      · exact Nat.lt_trans l2 (Nat.lt_trans (Nat.lt_add_of_pos_right (by decide)) lz)
    · have kp : ∀ b o, s1.heap.get? b = some o → h2'.get? b = some o := fun b o q => by
        have lt := Heap.lt_size q
        exact kk b o (Nat.ne_of_lt (Nat.lt_trans lt (Nat.lt_add_of_pos_right (by decide)))) (Nat.ne_of_lt (Nat.lt_trans lt (Nat.lt_add_of_pos_right (by decide)))) (Nat.ne_of_lt lt) (Nat.ne_of_lt (Nat.lt_trans lt (Nat.lt_add_of_pos_right (by decide)))) (hk b o q)
      have hG' : Pd (fun i v => its[i]? = some v) (fun i v => its2[i]? = some v) h'.objs.size h2' as := ⟨hG.rise, hG.above, fun j a hj => by
        obtain ⟨x, y, q1, q2, q3⟩ := hG.pairs j a hj
        exact ⟨x, y, by simpa using q1, by simpa using q2, q3⟩⟩
      obtain ⟨qs, k1, k2, k3, k4, k5, k6, k7, J⟩ := zl_laid (tk := tk) I1 kp (Nat.le_of_lt (Nat.lt_trans (Nat.lt_add_of_pos_right (by decide)) lz)) hS rv rv2 (by simpa using hl) (Nat.le_trans (Nat.min_le_left _ _) z1) hG' hacc
      exact ⟨.ref _, _, J, rfl, q _ as qs (by rw [rv.length, rv2.length]; simpa using hl) k1 k2 k3 k4 k5 k6 k7⟩
/-- list(zip(a, b)) -/
def nZip (a b : CE) : CN := fun ρ S => (a ρ S).bind fun x S1 => (b ρ S1).bind fun y S2 => match seqXP x, seqXP y with
  | some (t, xs), some (u, ys) => if t = u then .ok (zipP xs ys) S2 else .no
  | _, _ => .no
end Cw
set_option Elab.async false
set_option linter.all false
set_option maxRecDepth 100000
set_option maxHeartbeats 2000000
/-! list(zip(a, b)): read. -/
namespace Cw
open PySem PySem.Spec PyProof.Rows L2

theorem zipP_zip (xs ys : List P) : zipP xs ys = (xs.zip ys).map fun z => P.tup [z.1, z.2] := by
  unfold zipP
  induction xs generalizing ys with
  | nil => rfl
  | cons x r ih =>
    cases ys with
    | nil => rfl
    | cons y t => rw [List.zipWith_cons_cons, List.zip_cons_cons, List.map_cons, ih t]
theorem nzip_okE {x y : D} {S S' : Sto} {z : List P} (e : (match seqXP x, seqXP y with
  | some (t, xs), some (u, ys) => if t = u then .ok (zipP xs ys) S else .no
  | _, _ => .no : R (List P)) = .ok z S') : ∃ t xs ys, seqXP x = some (t, xs) ∧ seqXP y = some (t, ys) ∧ z = zipP xs ys ∧ S' = S := by
  split at e
  · split at e
    · rename_i h
      cases e
      subst h
      exact ⟨_, _, _, by assumption, by assumption, rfl, rfl⟩
    · cases e
  · cases e
theorem rn_zip {X : Cx} {a b : Expr} {ca cb : CE} {p p2 cpos pos : Pos} (hc : X.calm = true) (hg : Gl X "list") (hm : X.mg "list" = none) (hg2 : Gl X "zip") (hm2 : X.mg "zip" = none) (ha : PE X a (RdE X.K ca)) (hb : PE X b (RdE X.K cb))
    (hs : starEach [a, b] X.env = (false, eval a X.env) :: starEach [b] X.env := by rfl) (hs3 : starEach (b :: []) X.env = (false, eval b X.env) :: starEach [] X.env := by rfl) (hpl : (backTo cpos (starEach [b] X.env)).any (·.1) = false := by rfl)
    (hs2 : starEach [.Call (.Name "zip" p2) [a, b] [] cpos] X.env = (false, eval (.Call (.Name "zip" p2) [a, b] [] cpos) X.env) :: starEach [] X.env := by rfl) :
    PE X (.Call (.Name "list" p) [.Call (.Name "zip" p2) [a, b] [] cpos] [] pos) (RdN X.K (nZip ca cb)) := by
  have pa := pa_cons ha (pa_cons hb pa_nil hs3) hs
  refine (PE.orr (pe_zipL false hc hg hm hg2 hm2 pa hs hpl hs2) (pe_zipL true hc hg hm hg2 hm2 pa hs hpl hs2)).weak fun σ H Q ⟨ι, ρ, S, cf, d, S', e, k⟩ => ?_
  obtain ⟨x, S1, e1, e2⟩ := bind_ok e
  obtain ⟨y, S2, e3, e4⟩ := bind_ok e2
  obtain ⟨t, ps, ts, hx, hy, rfl, rfl⟩ := nzip_okE e4
  have key : tZipL t X.K (tCons (RdE X.K ca) (tCons (RdE X.K cb) tNil)) σ H Q := by
    refine RdE.run cf e1 fun v ι1 H1 st1 cf1 r1 => RdE.run cf1 e3 fun w ι2 H2 st2 cf2 r2 => ?_
    have r1 := r1.mono st2
    have st := st1.trans st2
    obtain ⟨a, vs, rfl, h1, q1⟩ := seqXD r1 hx
    obtain ⟨b, ws, rfl, h2, q2⟩ := seqXD r2 hy
    refine ⟨a, b, vs, ws, rfl, h1.sq, h2.sq, fun p as qs hl hq hn nd hp hpa hd hv => ?_⟩
    have lz : (ps.zip ts).length = qs.length := by rw [List.length_zip, hq, hl, q1.length, q2.length]
    obtain ⟨st3, wd3, rr⟩ := putZ_ok (K := X.K) (ι := ι2) (S := S') as qs (ps.zip ts) H2 hq.symm lz.symm nd hn hd cf2.wd fun j q z f1 f2 => by
      obtain ⟨g1, g2⟩ := hv j q f1
      obtain ⟨m1, m2⟩ := List.getElem?_zip_eq_some.mp f2
      obtain ⟨v1, n1, rv1⟩ := q1.get m1
      obtain ⟨v2, n2, rv2⟩ := q2.get m2
      rw [g1] at n1; cases n1
      rw [g2] at n2; cases n2
      exact .cons rv1 (.cons rv2 .nil)
    rw [← zipP_zip] at rr
    exact PostN.intro (st.trans st3) wd3 rr rfl k p (by rw [putZ_off as qs _ hpa]; exact hp)
  cases t with
  | false => exact .inl key
  | true => exact .inr key
@[simp] theorem xnZip (a b : CE) (ρ : Ev) (S : Sto) : nZip a b ρ S = (a ρ S).bind fun x S1 => (b ρ S1).bind fun y S2 => match seqXP x, seqXP y with | some (t, xs), some (u, ys) => if t = u then .ok (zipP xs ys) S2 else .no | _, _ => .no := id rfl
end Cw
set_option Elab.async false
set_option linter.all false
set_option maxRecDepth 100000
set_option maxHeartbeats 4000000
/-! Gn: the law's drawing of pools, words, books; what they come to. iN, iS, iA, iM: where _law_next, _law_spelt, _law_any_name, _law_names stand. -/
namespace Gn
open Cw L2
/-- _law_pool(cell): cell=0 -/
def b_law_pool (iN iS iA iM : Nat) (run : Run) : CS :=
  (sRet (cTr (cLst (cCons (c1 gMax (cCons (cP (.int 0)) (cCons (c2 gSub (cVar 0) (c2 gPow (cP (.int 10)) (cP (.int 18)))) cNil))) (cCons (c2 gMod (cVar 0) (c2 gPow (cP (.int 10)) (cP (.int 18)))) (cCons (cP (.int 0)) cNil))))))
/-- _law_next(pool, base): pool=0 base=1 digit=2 near=3 stir=4 -/
def b_law_next (iN iS iA iM : Nat) (run : Run) : CS :=
  (sSeq (sIf (cT (c2 gGt (c2 gIx (cVar 0) (cP (.int 0))) (cP (.int 0))))
    (sSeq (sAsg (c2 gMod (c2 gIx (cVar 0) (cP (.int 0))) (cVar 1)) (gN 2))
  (sSeq (sAsg (c2 gDiv (c2 gIx (cVar 0) (cP (.int 0))) (cVar 1)) (gAt (cVar 0) (cP (.int 0))))
  (sRet (cVar 2))))
    sNil)
  (sSeq (sAsg (c2 gAdd (c2 gIx (cVar 0) (cP (.int 2))) (cP (.int 1))) (gAt (cVar 0) (cP (.int 2))))
  (sSeq (sAsg (c2 gMod (c2 gAdd (c2 gIx (cVar 0) (cP (.int 1))) (c2 gMul (cP (.int 7919)) (c2 gIx (cVar 0) (cP (.int 2))))) (cP (.int 1000000007))) (gN 3))
  (sSeq (sAsg (c2 gMod (c2 gMul (c2 gAdd (cVar 3) (cP (.int 11))) (c2 gAdd (cVar 3) (cP (.int 48271)))) (cP (.int 998244353))) (gN 4))
  (sRet (c2 gMod (c2 gDiv (c2 gMod (c2 gMul (cVar 4) (cVar 4)) (cP (.int 2147483647))) (cP (.int 8))) (cVar 1)))))))
/-- _law_cells(script, many): script=0 many=1 found=2 k=3 -/
def b_law_cells (iN iS iA iM : Nat) (run : Run) : CS :=
  (sSeq (sAsg (cTr (nRep (cLst (cCons (cP (.int 0)) cNil)) (cVar 1))) (gN 2))
  (sSeq (sFor (cRng1 (c1 gLen (cCons (cVar 0) cNil))) (gN 3)
    (sIf (cT (c2 gLt (cVar 3) (cVar 1)))
    (sAsg (c2 gIx (cVar 0) (cVar 3)) (gAt (cVar 2) (cVar 3)))
    (sAsg (c2 gAdd (c2 gMul (c2 gIx (cVar 2) (c2 gMod (cVar 3) (cVar 1))) (cP (.int 31))) (c2 gIx (cVar 0) (cVar 3))) (gAt (cVar 2) (c2 gMod (cVar 3) (cVar 1))))))
  (sRet (cVar 2))))
/-- _law_spelt(number, size): number=0 size=1 letters=2 name=3 k=4 -/
def b_law_spelt (iN iS iA iM : Nat) (run : Run) : CS :=
  (sSeq (sAsg (cP (.str "abcdefghijklmnopqrstuvwxyz")) (gN 2))
  (sSeq (sAsg (cP (.str "")) (gN 3))
  (sSeq (sFor (cRng1 (cVar 1)) (gN 4)
    (sSeq (sAsg (c2 gAdd (c2 gIx (cVar 2) (c2 gMod (cVar 0) (cP (.int 26)))) (cVar 3)) (gN 3))
  (sAsg (c2 gDiv (cVar 0) (cP (.int 26))) (gN 0))))
  (sRet (cVar 3)))))
/-- _law_any_name(pool, taken): pool=0 taken=1 size=2 number=3 turn=4 -/
def b_law_any_name (iN iS iA iM : Nat) (run : Run) : CS :=
  (sSeq (sAsg (c2 gAdd (cP (.int 1)) (cCallF run iN (cCons (cVar 0) (cCons (cP (.int 8)) cNil)))) (gN 2))
  (sSeq (sAsg (cCallF run iN (cCons (cVar 0) (cCons (c2 gPow (cP (.int 26)) (cP (.int 8))) cNil))) (gN 3))
  (sSeq (sFor (cRng1 (c1 gLen (cCons (cVar 1) cNil))) (gN 4)
    (sIf (cT (c2 (gInB false) (cCallF run iS (cCons (cVar 3) (cCons (cVar 2) cNil))) (cVar 1)))
    (sAsg (c2 gAdd (cVar 3) (cP (.int 1))) (gN 3))
    sNil))
  (sRet (cCallF run iS (cCons (cVar 3) (cCons (cVar 2) cNil)))))))
/-- _law_names(pool, many, taken): pool=0 many=1 taken=2 found=3 size=4 k=5 base=6 at=7 first=8 tails=9 name=10 -/
def b_law_names (iN iS iA iM : Nat) (run : Run) : CS :=
  (sSeq (sAsg (cTr (cLst cNil)) (gN 3))
  (sSeq (sAsg (cCallF run iN (cCons (cVar 0) (cCons (cP (.int 14)) cNil))) (gN 4))
  (sSeq (sIf (cT (c2 gGt (cVar 4) (cP (.int 6))))
    (sSeq (sFor (cRng1 (cVar 1)) (gN 5)
    (sDrop (cM "list" gAppend (cVar 3) (cCons (cCallF run iA (cCons (cVar 0) (cCons (c2 gAdd (cVar 3) (cVar 2)) cNil))) cNil))))
  (sRet (cVar 3)))
    sNil)
  (sSeq (sAsg (cCallF run iS (cCons (cCallF run iN (cCons (cVar 0) (cCons (c2 gPow (cP (.int 26)) (cP (.int 6))) cNil))) (cCons (cVar 4) cNil))) (gN 6))
  (sSeq (sAsg (cCallF run iN (cCons (cVar 0) (cCons (c2 gAdd (cVar 4) (cP (.int 1))) cNil))) (gN 7))
  (sSeq (sAsg (cCallF run iN (cCons (cVar 0) (cCons (cP (.int 26)) cNil))) (gN 8))
  (sSeq (sAsg (cCallF run iN (cCons (cVar 0) (cCons (cP (.int 3)) cNil))) (gN 9))
  (sSeq (sFor (cRng1 (cVar 1)) (gN 5)
    (sSeq (sAsg (c2 gAdd (c2 gAdd (cSl (cVar 6) cONone (cOSome (cVar 7))) (cCallF run iS (cCons (c2 gAdd (cVar 8) (c2 gMul (cP (.int 5)) (cVar 5))) (cCons (cP (.int 1)) cNil)))) (cSl (cVar 6) (cOSome (cVar 7)) cONone)) (gN 10))
  (sSeq (sIf (cOr (cAnd (cT (c2 (gEqB false) (cVar 9) (cP (.int 1)))) (cT (c2 (gEqB false) (c2 gMod (cVar 5) (cP (.int 2))) (cP (.int 1))))) (cT (c2 (gInB false) (cVar 10) (cVar 2))))
    (sAsg (c2 gAdd (cVar 10) (cP (.str "b"))) (gN 10))
    sNil)
  (sDrop (cM "list" gAppend (cVar 3) (cCons (cVar 10) cNil))))))
  (sRet (cVar 3))))))))))
/-- _law_book(pool): pool=0 many=1 chain=2 kinds=3 makes=4 book=5 at=6 some=7 among=8 count=9 k=10 size=11 fields=12 first=13 place=14 -/
def b_law_book (iN iS iA iM : Nat) (run : Run) : CS :=
  (sSeq (sAsg (c2 gIx (cRo (cLst (cCons (cP (.int 1)) (cCons (cP (.int 2)) (cCons (cP (.int 2)) (cCons (cP (.int 3)) (cCons (cP (.int 3)) (cCons (cP (.int 4)) (cCons (cP (.int 4)) (cCons (cP (.int 6)) cNil)))))))))) (cCallF run iN (cCons (cVar 0) (cCons (cP (.int 8)) cNil)))) (gN 1))
  (sSeq (sAsg (c2 (gEqB false) (cCallF run iN (cCons (cVar 0) (cCons (cP (.int 8)) cNil))) (cP (.int 0))) (gN 2))
  (sSeq (sIf (cTru (cVar 2))
    (sAsg (c2 gAdd (cP (.int 4)) (cCallF run iN (cCons (cVar 0) (cCons (cP (.int 3)) cNil)))) (gN 1))
    sNil)
  (sSeq (sAsg (cCallF run iM (cCons (cVar 0) (cCons (cVar 1) (cCons (cRo (cLst (cCons (cP (.str "num")) cNil))) cNil)))) (gN 3))
  (sSeq (sAsg (cCall run iM (cCons (cVar 0) (cCons (cP (.int 26)) (cCons (cRo (cLst cNil)) cNil)))) (gN 4))
  (sSeq (sAsg (cTr (cLst cNil)) (gN 5))
  (sSeq (sFor (cRng1 (cVar 1)) (gN 6)
    (sSeq (sAsg (cTr (cLst cNil)) (gN 7))
  (sSeq (sAsg (c2 gIx (cRo (cLst (cCons (c2 gAdd (cVar 3) (cRo (cLst (cCons (cP (.str "num")) (cCons (cP (.str "num")) cNil))))) (cCons (c2 gAdd (cSl (cVar 3) (cOSome (c2 gAdd (cVar 6) (cP (.int 1)))) cONone) (cRo (cLst (cCons (cP (.str "num")) cNil)))) cNil)))) (c1 gIntOf (cCons (cVar 2) cNil))) (gN 8))
  (sSeq (sAsg (c1 gMin (cCons (c2 gIx (cRo (cLst (cCons (cP (.int 1)) (cCons (cP (.int 2)) (cCons (cP (.int 2)) (cCons (cP (.int 3)) (cCons (cP (.int 3)) (cCons (cP (.int 2)) (cCons (cP (.int 4)) (cCons (cP (.int 6)) cNil)))))))))) (cCallF run iN (cCons (cVar 0) (cCons (cP (.int 8)) cNil)))) (cCons (c2 gSub (c2 gAdd (c2 gAdd (c1 gLen (cCons (cVar 4) cNil)) (cVar 6)) (cP (.int 1))) (cVar 1)) cNil))) (gN 9))
  (sSeq (sFor (cRng1 (cVar 9)) (gN 10)
    (sSeq (sAsg (c2 gIx (cRo (cLst (cCons (cP (.int 0)) (cCons (cP (.int 0)) (cCons (cP (.int 1)) (cCons (cP (.int 1)) (cCons (cP (.int 2)) (cCons (cP (.int 2)) (cCons (cP (.int 3)) (cCons (cP (.int 4)) cNil)))))))))) (cCallF run iN (cCons (cVar 0) (cCons (cP (.int 8)) cNil)))) (gN 11))
  (sSeq (sAsg (cRo (cComp (cRng1 (cVar 11)) (gN 14) cYes (c2 gIx (cVar 8) (cCallF run iN (cCons (cVar 0) (cCons (c1 gLen (cCons (cVar 8) cNil)) cNil)))) [14])) (gN 12))
  (sSeq (sIf (cTru (cVar 2))
    (sAsg (c2 gAdd (cSl (cVar 12) cONone (cOSome (cP (.int 3)))) (cSl (cVar 8) cONone (cOSome (cP (.int 1))))) (gN 12))
    sNil)
  (sDrop (cM "list" gAppend (cVar 7) (cCons (cTup (cCons (cM "list" gPopAt (cVar 4) (cCons (cP (.int 0)) cNil)) (cCons (c1 gTuple (cCons (cVar 12) cNil)) cNil))) cNil)))))))
  (sDrop (cM "list" gAppend (cVar 5) (cCons (cTup (cCons (c2 gIx (cVar 3) (cVar 6)) (cCons (c1 gTuple (cCons (cVar 7) cNil)) cNil))) cNil))))))))
  (sSeq (sAsg (cCallF run iN (cCons (cVar 0) (cCons (cVar 1) cNil))) (gN 13))
  (sRet (c1 gTuple (cCons (c2 gAdd (cSl (cVar 5) (cOSome (cVar 13)) cONone) (cSl (cVar 5) cONone (cOSome (cVar 13)))) cNil)))))))))))
end Gn
set_option Elab.async false
set_option linter.all false
set_option maxRecDepth 100000
set_option maxHeartbeats 4000000
namespace Gn
open Cw L2
open PySem hiding Run
variable {iN iS iA iM : Nat}

/-! ### draws -/
def PoolOk (l : List P) : Prop := ∃ a b c : Int, l = [.int a, .int b, .int c] ∧ 0 ≤ a ∧ 0 ≤ b ∧ 0 ≤ c
def NextOk (run : Run) (i : Nat) : Prop := ∀ (n : Nat) (base : Int) (S : Sto) (l : List P), S[n]? = some (.lst l) → PoolOk l → 0 < base → base ≤ 1000000000000000000000000000000000000000000000000000000000000 →
  ∃ (d : Int) (l' : List P), run i [.ref n, .p (.int base)] S = .ok (.p (.int d)) (S.set n (.lst l')) ∧ PoolOk l' ∧ 0 ≤ d ∧ d < base

theorem body_pool (run : Run) (c : Int) (S : Sto) : ∃ l, b_law_pool iN iS iA iM run [some (.p (.int c))] S = .ok (.rt (.ref S.length)) (S ++ [.lst l]) ∧ PoolOk l := by
  refine ⟨[.int (max 0 (c - 10 ^ 18)), .int (c % 10 ^ 18), .int 0], ?_, _, _, _, rfl, by omega, by omega, by omega⟩
  simp [b_law_pool, allP]
theorem body_next (run : Run) {n : Nat} {base : Int} {S : Sto} {l : List P} (hS : S[n]? = some (.lst l)) (hl : PoolOk l) (h0 : 0 < base) (h1 : base ≤ 1000000000000000000000000000000000000000000000000000000000000) :
    ∃ (d : Int) (l' : List P), b_law_next iN iS iA iM run [some (.ref n), some (.p (.int base)), none, none, none] S = .ok (.rt (.p (.int d))) (S.set n (.lst l')) ∧ PoolOk l' ∧ 0 ≤ d ∧ d < base := by
  obtain ⟨a, b, c, rfl, ha, hb, hc⟩ := hl
  have hn : n < S.length := get_lt hS
  have i0 := vIxRef (i := 0) (x := .int a) hS (by omega) rfl
  have i1 := vIxRef (i := 1) (x := .int b) hS (by omega) rfl
  have i2 := vIxRef (i := 2) (x := .int c) hS (by omega) rfl
  by_cases h : 0 < a
  · have s0 := vSetL (i := 0) (y := .int (a / base)) hS (by omega) (by simp)
    refine ⟨a % base, [.int (a / base), .int b, .int c], ?_, ⟨_, _, _, rfl, Int.ediv_nonneg (by omega) (by omega), hb, hc⟩, Int.emod_nonneg _ (by omega), Int.emod_lt_of_pos _ h0⟩
    simp (disch := omega) [b_law_next, i0, h, s0, vDivB]
  · have s2 := vSetL (i := 2) (y := .int (c + 1)) hS (by omega) (by simp)
    have hS2 : (S.set n (.lst [.int a, .int b, .int (c + 1)]))[n]? = some (.lst [.int a, .int b, .int (c + 1)]) := List.getElem?_set_self hn
    have j1 := vIxRef (i := 1) (x := .int b) hS2 (by omega) rfl
    have j2 := vIxRef (i := 2) (x := .int (c + 1)) hS2 (by omega) rfl
    refine ⟨(b + 7919 * (c + 1)) % 1000000007 |> fun near => (near + 11) * (near + 48271) % 998244353 |> fun stir => stir * stir % 2147483647 / 8 % base, [.int a, .int b, .int (c + 1)], ?_, ⟨_, _, _, rfl, ha, hb, by omega⟩, Int.emod_nonneg _ (by omega), Int.emod_lt_of_pos _ h0⟩
    simp (disch := omega) [b_law_next, i0, h, i2, s2, j1, j2]
/-! ### cells -/
theorem body_cells (run : Run) (ns : List Int) (m : Nat) (S : Sto) (h : ns.length ≤ 63) (hm : 1 ≤ m) (hm2 : m ≤ 6) :
    Nd (b_law_cells iN iS iA iM run [some (.p (.scr (ns.map .int))), some (.p (.int m)), none, none] S) fun f S' => f = .rt (.ref S.length) ∧ ∃ cs : List Int, S' = S ++ [.lst (cs.map .int)] ∧ cs.length = m := by
  simp (disch := omega) [b_law_cells, allP]
  have sp : ∀ cs : List P, (S ++ [Ob.lst cs])[S.length]? = some (.lst cs) := fun cs => get_new
  refine rangeE0 (fun _ ρ S' => ∃ (cs : List Int) (v : Option D), ρ = [some (.p (.scr (ns.map .int))), some (.p (.int m)), some (.ref S.length), v] ∧ S' = S ++ [.lst (cs.map .int)] ∧ cs.length = m) ?h0 ?hs ?hk
  case h0 => exact ⟨List.replicate m 0, none, rfl, by rw [List.map_replicate], List.length_replicate⟩
  case hs =>
    rintro j ρ S' hj ⟨cs, v, rfl, rfl, hc⟩
    refine Nd.go ?_
    unfold turnF
    obtain ⟨x, hx⟩ : ∃ x, ns[j]? = some x := ⟨ns[j], List.getElem?_eq_getElem hj⟩
    have hx2 : (ns.map P.int)[((j : Int)).toNat]? = some (.int x) := by rw [Int.toNat_natCast, List.getElem?_map, hx]; rfl
    have g0 := fun S => vIxScr (i := (j : Int)) S (by omega) hx2
    have hlen : ∀ (k : Nat) (y : Int), S.set k (Ob.gone) = S.set k Ob.gone := fun _ _ => rfl
    by_cases hjm : j < m
    · have hs := vSetL (i := (j : Int)) (y := .int x) (sp (cs.map .int)) (by omega) (by rw [List.length_map]; omega)
      simp (disch := omega) [hjm, g0, hs]
      exact ⟨cs.set j x, by simp, by rw [List.length_set]; exact hc⟩
    · have hq : (j : Int) % (m : Int) = ((j % m : Nat) : Int) := by omega
      have hq2 : j % m < m := Nat.mod_lt _ (by omega)
      obtain ⟨y, hy⟩ : ∃ y, cs[j % m]? = some y := ⟨cs[j % m]'(by omega), List.getElem?_eq_getElem (by omega)⟩
      have hy2 : (cs.map P.int)[(((j % m : Nat) : Int)).toNat]? = some (.int y) := by rw [Int.toNat_natCast, List.getElem?_map, hy]; rfl
      have g1 := vIxRef (i := ((j % m : Nat) : Int)) (sp (cs.map .int)) (by omega) hy2
      have hs := vSetL (i := ((j % m : Nat) : Int)) (y := .int (y * 31 + x)) (sp (cs.map .int)) (by omega) (by rw [List.length_map]; omega)
      simp (disch := omega) only [xSIf, xT, x2, xVar0, xVarS, xgN, bind_okE, vLt, xbT, Int.ofNat_lt, hjm, decide_false, xAsg, vMod, hq, g1, xP, vMulR, g0, vAdd, xgAt, hs, nd_ok, List.set_cons_zero, List.set_cons_succ, Bool.false_eq_true, if_false]
      exact ⟨_, rfl, cs.set (j % m) (y * 31 + x), _, rfl, by rw [Int.toNat_natCast, List.map_set]; simp, by rw [List.length_set]; exact hc⟩
  case hk =>
    rintro ρ S' ⟨cs, v, rfl, rfl, hc⟩
    simp
    exact ⟨cs, rfl, hc⟩
/-! ### words -/
def spw (n : Nat) : Nat → List Nat
  | 0 => []
  | k + 1 => (97 + n / 26 ^ k % 26) :: spw n k
theorem spw_len (n : Nat) : ∀ k, (spw n k).length = k
  | 0 => rfl
  | k + 1 => by rw [spw, List.length_cons, spw_len n k]
theorem spw_last (n : Nat) : ∀ k, (spw n (k + 1)).getLast? = some (97 + n % 26)
  | 0 => by simp [spw]
  | k + 1 => by
    rw [spw, List.getLast?_cons, spw_last n k]; rfl
/-- a word of one to eight letters -/
def LW (l : List Nat) : Prop := 1 ≤ l.length ∧ l.length ≤ 8 ∧ ∀ c ∈ l, 97 ≤ c ∧ c ≤ 122
def Word (w : Str) : Prop := ∃ l, w = mkS l ∧ LW l
theorem spw_let (n : Nat) : ∀ k, ∀ c ∈ spw n k, 97 ≤ c ∧ c ≤ 122
  | 0, c, h => by cases h
  | k + 1, c, h => by
    rw [spw] at h
    rcases List.mem_cons.mp h with rfl | h
    · have := Nat.mod_lt (n / 26 ^ k) (show 0 < 26 by omega)
      omega
    · exact spw_let n k c h
theorem Word.ok {w : Str} (h : Word w) : PyData.strOk w = true := by
  obtain ⟨l, rfl, _, _, hl⟩ := h
  unfold PyData.strOk
  rw [Array.all_eq_true_iff_forall_mem]
  intro c hc
  have hc : c ∈ l := by simpa [mkS] using hc
  have := hl c hc
  exact decide_eq_true (by omega)
theorem letters_at : ∀ i : Fin 26, atI (("abcdefghijklmnopqrstuvwxyz" : Str)).cps.toList ((i.val : Nat) : Int) = some (97 + i.val) := by decide +kernel
theorem letters_len : (("abcdefghijklmnopqrstuvwxyz" : Str)).length = 26 := by decide +kernel
theorem vLetter (x : Nat) (S : Sto) : gIx (.p (.str ("abcdefghijklmnopqrstuvwxyz" : Str))) (.p (.int ((x % 26 : Nat) : Int))) S = .ok (.p (.str (mkS [97 + x % 26]))) S := by
  have h := letters_at ⟨x % 26, Nat.mod_lt _ (by omega)⟩
  simp only [gIx, dicL, letters_len, sizeLine_eq, h]
  rfl
def SpeltOk (run : Run) (i : Nat) : Prop := ∀ (n k : Nat) (S : Sto), k ≤ 1000 → run i [.p (.int n), .p (.int k)] S = .ok (.p (.str (mkS (spw n k)))) S
theorem empty_mk : ("" : Str) = mkS [] := by decide +kernel
theorem body_spelt (run : Run) (n k : Nat) (S : Sto) (hk : k ≤ 1000) :
    Nd (b_law_spelt iN iS iA iM run [some (.p (.int n)), some (.p (.int k)), none, none, none] S) fun f S' => f = .rt (.p (.str (mkS (spw n k)))) ∧ S' = S := by
  simp (disch := omega) [b_law_spelt]
  refine rangeE0 (fun j ρ S' => ∃ v, ρ = [some (.p (.int ((n / 26 ^ j : Nat) : Int))), some (.p (.int k)), some (.p (.str ("abcdefghijklmnopqrstuvwxyz" : Str))), some (.p (.str (mkS (spw n j)))), v] ∧ S' = S) ⟨none, by simp [spw, ← empty_mk], rfl⟩ ?_ ?_
  · rintro j ρ S' hj ⟨v, rfl, rfl⟩
    refine Nd.go ?_
    unfold turnF
    have e1 : ((n / 26 ^ j : Nat) : Int) % 26 = ((n / 26 ^ j % 26 : Nat) : Int) := by omega
    have e2 : ((n / 26 ^ j : Nat) : Int) / 26 = ((n / 26 ^ (j + 1) : Nat) : Int) := by rw [Nat.pow_succ, ← Nat.div_div_eq_div_mul]; omega
    have a1 := fun S => vAddS [97 + n / 26 ^ j % 26] (spw n j) S (by rw [spw_len, List.length_singleton]; omega)
    simp (disch := omega) only [xgN, bind_okE, xSeq, xAsg, x2, xVar0, xVarS, xP, vMod, e1, vLetter, a1, vDiv, e2, nd_ok, List.set_cons_zero, List.set_cons_succ]
    exact ⟨_, rfl, _, rfl, trivial⟩
  · rintro ρ S' ⟨v, rfl, rfl⟩
    simp
theorem nodup_sub_len {α : Type} [DecidableEq α] : ∀ (l m : List α), l.Nodup → (∀ x ∈ l, x ∈ m) → l.length ≤ m.length
  | [], _, _, _ => Nat.zero_le _
  | x :: r, m, h, hs => by
    have hx := hs x List.mem_cons_self
    have h2 := nodup_sub_len r (m.erase x) (List.nodup_cons.mp h).2 fun y hy => by
      have hne : y ≠ x := fun e => (List.nodup_cons.mp h).1 (e ▸ hy)
      exact (List.mem_erase_of_ne hne).mpr (hs y (List.mem_cons_of_mem _ hy))
    rw [List.length_erase_of_mem hx] at h2
    have : 0 < m.length := List.length_pos_of_mem hx
    rw [List.length_cons]; omega
theorem nodup_full {α : Type} [DecidableEq α] {l m : List α} (hl : l.Nodup) (hs : ∀ x ∈ l, x ∈ m) (hm : m.length ≤ l.length) {y : α} (hy : y ∈ m) : y ∈ l := by
  refine Classical.byContradiction fun h => ?_
  have := nodup_sub_len (y :: l) m (List.nodup_cons.mpr ⟨h, hl⟩) fun x hx => by
    rcases List.mem_cons.mp hx with rfl | hx
    · exact hy
    · exact hs x hx
  rw [List.length_cons] at this
  omega
theorem spw_ne {n i j k : Nat} (hi : i < 26) (hj : j < 26) (h : mkS (spw (n + i) (k + 1)) = mkS (spw (n + j) (k + 1))) : i = j := by
  have h := congrArg List.getLast? (mkS_inj h)
  rw [spw_last, spw_last] at h
  have h := Option.some.inj h
  omega
theorem any_fresh {taken : List Str} {n k : Nat} (h : taken.length < 26) (hs : ∀ i, i < taken.length → mkS (spw (n + i) (k + 1)) ∈ taken) : mkS (spw (n + taken.length) (k + 1)) ∉ taken := by
  intro hq
  have h2 : ((List.range (taken.length + 1)).map fun i => mkS (spw (n + i) (k + 1))).Nodup := by
    rw [List.nodup_iff_pairwise_ne, List.pairwise_map]
    have := List.nodup_range (n := taken.length + 1)
    rw [List.nodup_iff_pairwise_ne] at this
    refine this.imp_of_mem fun {a b} ha hb hne e => hne (spw_ne ?_ ?_ e)
    · rw [List.mem_range] at ha; omega
    · rw [List.mem_range] at hb; omega
  have := nodup_sub_len _ taken h2 fun x hx => by
    obtain ⟨i, hi, rfl⟩ := List.mem_map.mp hx
    rw [List.mem_range] at hi
    rcases Nat.lt_or_ge i taken.length with q | q
    · exact hs i q
    · have : i = taken.length := by omega
      subst this; exact hq
  rw [List.length_map, List.length_range] at this
  omega
end Gn
set_option Elab.async false
set_option linter.all false
set_option maxRecDepth 100000
set_option maxHeartbeats 4000000
namespace Gn
open Cw L2
open PySem hiding Run
variable {iN iS iA iM : Nat}

/-! ### the store as it stands while a pool is drawn from -/
def St (S : Sto) (n : Nat) (l : List P) (G : Sto) : Sto := S.set n (.lst l) ++ G
section
variable {S : Sto} {n : Nat} {l l' : List P} {G G' : Sto}
theorem St_len : (St S n l G).length = S.length + G.length := by simp [St]
theorem St_pool (h : n < S.length) : (St S n l G)[n]? = some (.lst l) := by
  unfold St
  rw [List.getElem?_append_left (by rw [List.length_set]; exact h), List.getElem?_set_self h]
theorem St_set (h : n < S.length) : (St S n l G).set n (.lst l') = St S n l' G := by
  unfold St
  rw [List.set_append_left _ _ (by rw [List.length_set]; exact h), List.set_set]
theorem St_at {m i : Nat} {o : Ob} (h : m = S.length + i) (hG : G[i]? = some o) : (St S n l G)[m]? = some o := by
  subst h
  unfold St
  rw [List.getElem?_append_right (by rw [List.length_set]; omega), List.length_set, Nat.add_sub_cancel_left]
  exact hG
theorem St_setG {m i : Nat} {o : Ob} (h : m = S.length + i) : (St S n l G).set m o = St S n l (G.set i o) := by
  subst h
  unfold St
  rw [List.set_append_right _ _ (by rw [List.length_set]; omega), List.length_set, Nat.add_sub_cancel_left]
theorem St_app : St S n l G ++ G' = St S n l (G ++ G') := by unfold St; rw [List.append_assoc]
theorem St_take : (St S n l G).take S.length = S.set n (.lst l) := by
  unfold St
  rw [List.take_append_of_le_length (by rw [List.length_set]; exact Nat.le_refl _)]
  exact take_set
theorem St_id (h : S[n]? = some (.lst l)) : S = St S n l [] := by
  unfold St
  rw [List.append_nil]
  have := List.set_getElem_self (as := S) (i := n) (get_lt h)
  have e : S[n]'(get_lt h) = .lst l := by
    have := List.getElem?_eq_getElem (get_lt h)
    rw [h] at this
    exact (Option.some.inj this).symm
  rw [e] at this
  exact this.symm
theorem St_nil : St S n l [] = S.set n (.lst l) := by unfold St; rw [List.append_nil]
end
/-- a draw, as a plain number -/
theorem draw {run : Run} {i : Nat} (hx : NextOk run i) {S : Sto} {n : Nat} (hn : n < S.length) {l : List P} (hl : PoolOk l) (G : Sto) (base : Int) (h0 : 0 < base) (h1 : base ≤ 1000000000000000000000000000000000000000000000000000000000000) :
    ∃ (d : Nat) (l' : List P), run i [.ref n, .p (.int base)] (St S n l G) = .ok (.p (.int d)) (St S n l' G) ∧ PoolOk l' ∧ (d : Int) < base := by
  obtain ⟨d, l', e, h, h2, h3⟩ := hx n base (St S n l G) l (St_pool hn) hl h0 h1
  rw [St_set hn] at e
  have hd : d = (d.toNat : Int) := by omega
  rw [hd] at e h3
  exact ⟨_, _, e, h, h3⟩
theorem vAddRR {x y : D} {xs ys : List P} {S : Sto} (hx : seqL x S = some xs) (hy : seqL y S = some ys) (h : xs.length + ys.length ≤ 16777216) : gAdd x y S = .ok (.p (.ro (xs ++ ys))) S := by
  unfold gAdd
  split
  · cases hx
  · cases hx
  · cases hx
  · simp only [gCat, hx, hy, sizeLine_eq, h, if_true]
theorem seq_ref {n : Nat} {xs : List P} {S : Sto} (h : S[n]? = some (.lst xs)) : seqL (.ref n) S = some xs := by simp [seqL, h]
def AnyOk (run : Run) (i : Nat) : Prop := ∀ (S : Sto) (n : Nat) (l : List P) (G : Sto) (taken : List Str), n < S.length → PoolOk l → taken.length < 26 →
  ∃ (w : Str) (l' : List P), run i [.ref n, .p (.ro (taken.map .str))] (St S n l G) = .ok (.p (.str w)) (St S n l' G) ∧ PoolOk l' ∧ w ∉ taken ∧ Word w
theorem body_any (run : Run) (hx : NextOk run iN) (hs : SpeltOk run iS) {S : Sto} {n : Nat} (hn : n < S.length) {l : List P} (hl : PoolOk l) (G : Sto) (taken : List Str) (ht : taken.length < 26) :
    Nd (b_law_any_name iN iS iA iM run [some (.ref n), some (.p (.ro (taken.map .str))), none, none, none] (St S n l G)) fun f S' => ∃ (w : Str) (l' : List P), f = .rt (.p (.str w)) ∧ S' = St S n l' G ∧ PoolOk l' ∧ w ∉ taken ∧ Word w := by
  obtain ⟨d1, l1, e1, h1, b1⟩ := draw hx hn hl G 8 (by omega) (by omega)
  obtain ⟨N, l2, e2, h2, b2⟩ := draw hx hn h1 G 208827064576 (by omega) (by omega)
  have hT : (taken.map P.str).length = taken.length := List.length_map _
  simp (disch := omega) [b_law_any_name, e1, e2, hT]
  have hz : (1 : Int) + (d1 : Int) = ((d1 + 1 : Nat) : Int) := by omega
  rw [hz]
  refine rangeE0 (fun j ρ S' => ∃ (M : Nat) (v : Option D), ρ = [some (.ref n), some (.p (.ro (taken.map .str))), some (.p (.int ((d1 + 1 : Nat) : Int))), some (.p (.int M)), v] ∧ S' = St S n l2 G ∧
    (mkS (spw M (d1 + 1)) ∉ taken ∨ (M = N + j ∧ ∀ i, i < j → mkS (spw (N + i) (d1 + 1)) ∈ taken))) ⟨N, none, rfl, rfl, .inr ⟨rfl, fun i h => absurd h (Nat.not_lt_zero _)⟩⟩ ?_ ?_
  · rintro j ρ S' hj ⟨M, v, rfl, rfl, hM⟩
    refine Nd.go ?_
    unfold turnF
    have s1 := fun S => hs M (d1 + 1) S (by omega)
    by_cases hin : mkS (spw M (d1 + 1)) ∈ taken
    · simp (disch := omega) only [xgN, bind_okE, xSIf, xT, x2, xCallF, xCons, xVar0, xVarS, xNil, s1, xfrz_p, vInRo, hin, xbT, decide_true, xAsg, xP, vAdd, List.set_cons_zero, List.set_cons_succ, if_true, Bool.false_eq_true, if_false]
      refine .ok ⟨_, rfl, M + 1, _, rfl, rfl, ?_⟩
      rcases hM with q | ⟨rfl, q⟩
      · exact absurd hin q
      · exact .inr ⟨by omega, fun i hi => by
          rcases Nat.lt_or_ge i j with z | z
          · exact q i z
          · have : i = j := by omega
            subst this; exact hin⟩
    · simp (disch := omega) only [xgN, bind_okE, xSIf, xT, x2, xCallF, xCons, xVar0, xVarS, xNil, s1, xfrz_p, vInRo, hin, xbT, decide_false, xSNil, List.set_cons_zero, List.set_cons_succ, Bool.false_eq_true, if_false]
      exact .ok ⟨_, rfl, M, _, rfl, rfl, .inl hin⟩
  · rintro ρ S' ⟨M, v, rfl, rfl, hM⟩
    have s1 := fun S => hs M (d1 + 1) S (by omega)
    simp (disch := omega) only [xRet, xCallF, xCons, xVar0, xVarS, xNil, bind_okE, s1, xfrz_p]
    refine .ok ⟨mkS (spw M (d1 + 1)), rfl, l2, rfl, h2, ?_, _, rfl, by rw [spw_len]; omega, by rw [spw_len]; omega, spw_let _ _⟩
    rcases hM with q | ⟨rfl, q⟩
    · exact q
    · exact any_fresh ht q

/-! ### names -/
def endsB (w : Str) : Prop := w.cps.toList.getLast? = some 98
def NamesOk (run : Run) (i : Nat) : Prop := ∀ (S : Sto) (n : Nat) (l : List P) (G : Sto) (m : Nat) (taken : List Str), n < S.length → PoolOk l → m + taken.length ≤ 26 → (∀ w ∈ taken, ¬ endsB w) →
  ∃ (ws : List Str) (l' : List P), run i [.ref n, .p (.int m), .p (.ro (taken.map .str))] (St S n l G) = .ok (.ref (S.length + G.length)) (St S n l' (G ++ [.lst (ws.map .str)])) ∧ PoolOk l' ∧ ws.length = m ∧ ws.Nodup ∧ ∀ w ∈ ws, w ∉ taken ∧ Word w
theorem num_at {f j k : Nat} (hj : j < 26) (hk : k < 26) (h : (f + 5 * j) % 26 = (f + 5 * k) % 26) : j = k := by omega
/-- a name of the second sort -/
def nm (b : List Nat) (a f j : Nat) : List Nat := b.take a ++ [97 + (f + 5 * j) % 26] ++ b.drop a
theorem nm_at {b : List Nat} {a f j : Nat} (ha : a ≤ b.length) (t : List Nat) : (nm b a f j ++ t)[a]? = some (97 + (f + 5 * j) % 26) := by
  unfold nm
  rw [List.append_assoc, List.append_assoc, List.getElem?_append_right (by rw [List.length_take]; omega), List.length_take, Nat.min_eq_left ha, Nat.sub_self]
  rfl
theorem body_names (run : Run) (hx : NextOk run iN) (hs : SpeltOk run iS) (ha : AnyOk run iA) {S : Sto} {n : Nat} (hn : n < S.length) {l : List P} (hl : PoolOk l) (G : Sto) (m : Nat) (taken : List Str) (hm : m + taken.length ≤ 26) (ht : ∀ w ∈ taken, ¬ endsB w) :
    Nd (b_law_names iN iS iA iM run [some (.ref n), some (.p (.int m)), some (.p (.ro (taken.map .str))), none, none, none, none, none, none, none, none] (St S n l G)) fun f S' =>
      ∃ (ws : List Str) (l' : List P), f = .rt (.ref (S.length + G.length)) ∧ S' = St S n l' (G ++ [.lst (ws.map .str)]) ∧ PoolOk l' ∧ ws.length = m ∧ ws.Nodup ∧ ∀ w ∈ ws, w ∉ taken ∧ Word w := by
  obtain ⟨size, l1, e1, h1, b1⟩ := draw hx hn hl (G ++ [.lst []]) 14 (by omega) (by omega)
  have hat : ∀ (l : List P) (xs : List P), (St S n l (G ++ [Ob.lst xs]))[S.length + G.length]? = some (.lst xs) := fun l xs => St_at (i := G.length) rfl get_new
  have hset : ∀ (l : List P) (xs ys : List P), (St S n l (G ++ [Ob.lst xs])).set (S.length + G.length) (.lst ys) = St S n l (G ++ [Ob.lst ys]) := fun l xs ys => by
    rw [St_setG (i := G.length) rfl]; simp
  simp (disch := omega) only [b_law_names, xSeq, xAsg, xTr, xLst, xNil, allP, bind_okE, List.length_nil, sizeLine_val, Nat.zero_le, if_true, xgN, St_len, St_app, List.set_cons_zero, List.set_cons_succ, xCallF, xCons, xVar0, xVarS, xP, e1, xfrz_p, xSIf, xT, x2, vGt, xbT]
  by_cases hb : (6 : Int) < size
  · simp (disch := omega) only [hb, decide_true, if_true, xSeq, xFor, xRng1, xVar0, xVarS, bind_okE, rngOk_nat, Int.toNat_natCast]
    rw [bind_asc]
    refine rangeE0 (fun j ρ S' => ∃ (l : List P) (ws : List Str) (v : Option D), ρ = [some (.ref n), some (.p (.int m)), some (.p (.ro (taken.map .str))), some (.ref (S.length + G.length)), some (.p (.int size)), v, none, none, none, none, none] ∧
      S' = St S n l (G ++ [.lst (ws.map .str)]) ∧ PoolOk l ∧ ws.length = j ∧ ws.Nodup ∧ ∀ w ∈ ws, w ∉ taken ∧ Word w) ⟨l1, [], none, rfl, rfl, h1, rfl, List.nodup_nil, by simp⟩ ?_ ?_
    · rintro j ρ S' hj ⟨l2, ws, v, rfl, rfl, h2, hw, nd, nt⟩
      refine Nd.go ?_
      obtain ⟨w, l3, e3, h3, n3, wd3⟩ := ha S n l2 (G ++ [.lst (ws.map .str)]) (ws ++ taken) hn h2 (by rw [List.length_append]; omega)
      have hc := vAddRR (y := .p (.ro (taken.map .str))) (seq_ref (hat l2 (ws.map .str))) rfl (by rw [List.length_map, List.length_map]; omega)
      rw [← List.map_append] at hc
      have hap := vAppend (y := .str w) (hat l3 (ws.map .str)) (by rw [List.length_map, sizeLine_eq]; omega)
      rw [hset] at hap
      have hty := vTyL (hat l2 (ws.map .str))
      unfold turnF
      simp (disch := omega) only [xgN, bind_okE, xDrop, xM, xVar0, xVarS, hty, if_true, xCons, xNil, xCallF, x2, hc, e3, xfrz_p, hap, List.set_cons_zero, List.set_cons_succ]
      rw [List.mem_append, not_or] at n3
      refine .ok ⟨_, rfl, l3, ws ++ [w], _, rfl, by rw [List.map_append]; rfl, h3, by rw [List.length_append, hw]; rfl, ?_, ?_⟩
      · rw [List.nodup_append]
        refine ⟨nd, by simp, fun a ha b hb => ?_⟩
        rw [List.mem_singleton] at hb
        subst hb
        exact fun e => n3.1 (e ▸ ha)
      · intro z hz
        rcases List.mem_append.mp hz with q | q
        · exact nt z q
        · rw [List.mem_singleton] at q
          subst q; exact ⟨n3.2, wd3⟩
    · rintro ρ S' ⟨l2, ws, v, rfl, rfl, h2, hw, nd, nt⟩
      simp only [xRet, xVar0, xVarS, bind_okE]
      exact .ok ⟨ws, l2, rfl, rfl, h2, hw, nd, nt⟩
  · obtain ⟨bn, l2, e2, h2, b2⟩ := draw hx hn h1 (G ++ [.lst []]) 308915776 (by omega) (by omega)
    obtain ⟨at', l3, e3, h3, b3⟩ := draw hx hn h2 (G ++ [.lst []]) ((size : Int) + 1) (by omega) (by omega)
    obtain ⟨first, l4, e4, h4, b4⟩ := draw hx hn h3 (G ++ [.lst []]) 26 (by omega) (by omega)
    obtain ⟨tails, l5, e5, h5, b5⟩ := draw hx hn h4 (G ++ [.lst []]) 3 (by omega) (by omega)
    have s1 := fun S => hs bn size S (by omega)
    have pw : ((26 : Int) ^ (6 : Int).toNat) = 308915776 := by decide
    simp (disch := omega) only [hb, decide_false, Bool.false_eq_true, if_false, xSeq, xSNil, xFor, xRng1, xVar0, xVarS, bind_okE, rngOk_nat, Int.toNat_natCast, xAsg, xCallF, xCons, xNil, xP, x2, vPow, pw, e2, xfrz_p, s1, xgN, List.set_cons_zero, List.set_cons_succ, vAdd, e3, e4, e5, if_true]
    have hbl : (spw bn size).length = size := spw_len _ _
    have hbw := spw_let bn size
    generalize spw bn size = base at hbl hbw
    refine rangeE0 (fun j ρ S' => ∃ (ws : List Str) (v w : Option D), ρ = [some (.ref n), some (.p (.int m)), some (.p (.ro (taken.map .str))), some (.ref (S.length + G.length)), some (.p (.int size)), v, some (.p (.str (mkS base))), some (.p (.int at')), some (.p (.int first)), some (.p (.int tails)), w] ∧
      S' = St S n l5 (G ++ [.lst (ws.map .str)]) ∧ ws.length = j ∧ (∀ w ∈ ws, ∃ i t, i < j ∧ w = mkS (nm base at' first i ++ t)) ∧ ws.Nodup ∧ ∀ w ∈ ws, w ∉ taken ∧ Word w) ⟨[], none, none, rfl, rfl, rfl, by simp, List.nodup_nil, by simp⟩ ?_ ?_
    · rintro j ρ S' hj ⟨ws, v, w, rfl, rfl, hw, sh, nd, nt⟩
      refine Nd.go ?_
      have s2 : ∀ S, run iS [.p (.int ((first + 5 * j : Nat) : Int)), .p (.int 1)] S = .ok (.p (.str (mkS (spw (first + 5 * j) 1)))) S := fun S => hs (first + 5 * j) 1 S (by omega)
      have z2 : (first : Int) + 5 * (j : Int) = ((first + 5 * j : Nat) : Int) := by omega
      have p1 := fun S => vSlPreS (a := base) (k := (at' : Int)) S (by omega) (by omega) (by omega)
      have p2 := fun S => vSlPostS (a := base) (k := (at' : Int)) S (by omega) (by omega) (by omega)
      have q1 := fun S => vAddS (base.take at') (spw (first + 5 * j) 1) S (by rw [List.length_take, spw_len]; omega)
      have q2 := fun S => vAddS (base.take at' ++ spw (first + 5 * j) 1) (base.drop at') S (by rw [List.length_append, List.length_take, List.length_drop, spw_len]; omega)
      have hnm : base.take at' ++ spw (first + 5 * j) 1 ++ base.drop at' = nm base at' first j := by simp [nm, spw]
      rw [hnm] at q2
      have hty := fun xs => vTyL (hat l5 xs)
      have hap := fun y => vAppend (y := y) (hat l5 (ws.map .str)) (by rw [List.length_map, sizeLine_eq]; omega)
      simp only [hset] at hap
      have fin : ∀ (t : List Nat) (w : Option D) (v : Option D), mkS (nm base at' first j ++ t) ∉ taken → (∀ c ∈ t, 97 ≤ c ∧ c ≤ 122) → t.length ≤ 1 → ∃ ρ', Fl.nx [some (.ref n), some (.p (.int m)), some (.p (.ro (taken.map .str))), some (.ref (S.length + G.length)), some (.p (.int size)), v, some (.p (.str (mkS base))), some (.p (.int at')), some (.p (.int first)), some (.p (.int tails)), w] = .nx ρ' ∧ ∃ (ws' : List Str) (v w : Option D), ρ' = [some (.ref n), some (.p (.int m)), some (.p (.ro (taken.map .str))), some (.ref (S.length + G.length)), some (.p (.int size)), v, some (.p (.str (mkS base))), some (.p (.int at')), some (.p (.int first)), some (.p (.int tails)), w] ∧
          St S n l5 (G ++ [.lst (ws.map .str ++ [.str (mkS (nm base at' first j ++ t))])]) = St S n l5 (G ++ [.lst (ws'.map .str)]) ∧ ws'.length = j + 1 ∧ (∀ w ∈ ws', ∃ i t, i < j + 1 ∧ w = mkS (nm base at' first i ++ t)) ∧ ws'.Nodup ∧ ∀ w ∈ ws', w ∉ taken ∧ Word w := by
        intro t w v hnt ht1 ht2
        refine ⟨_, rfl, ws ++ [mkS (nm base at' first j ++ t)], _, _, rfl, by rw [List.map_append]; rfl, by rw [List.length_append, hw]; rfl, ?_, ?_, ?_⟩
        · intro z hz
          rcases List.mem_append.mp hz with q | q
          · obtain ⟨i, t, hi, e⟩ := sh z q
            exact ⟨i, t, by omega, e⟩
          · rw [List.mem_singleton] at q
            exact ⟨j, t, by omega, q⟩
        · rw [List.nodup_append]
          refine ⟨nd, by simp, fun a ha b hb => ?_⟩
          rw [List.mem_singleton] at hb
          subst hb
          intro e
          obtain ⟨i, t2, hi, e2⟩ := sh a ha
          have e3 := congrArg (fun z => z[at']?) (mkS_inj (e2.symm.trans e))
          simp only [nm_at (show at' ≤ base.length by omega)] at e3
          have := num_at (by omega) (by omega) (show (first + 5 * i) % 26 = (first + 5 * j) % 26 by have := Option.some.inj e3; omega)
          omega
        · intro z hz
          rcases List.mem_append.mp hz with q | q
          · exact nt z q
          · rw [List.mem_singleton] at q
            subst q
            refine ⟨hnt, _, rfl, ?_, ?_, ?_⟩
            · simp only [nm, List.length_append, List.length_singleton]; omega
            · simp only [nm, List.length_append, List.length_take, List.length_drop, List.length_singleton]; omega
            · intro c hc
              simp only [nm, List.mem_append, List.mem_singleton] at hc
              rcases hc with ((hc | hc) | hc) | hc
              · exact hbw c (List.mem_of_mem_take hc)
              · have := Nat.mod_lt (first + 5 * j) (show 0 < 26 by omega)
                omega
              · exact hbw c (List.mem_of_mem_drop hc)
              · exact ht1 c hc
      have hbS : ("b" : Str) = mkS [98] := by decide +kernel
      have q3 := fun S => vAddS (nm base at' first j) [98] S (by unfold nm; simp only [List.length_append, List.length_take, List.length_drop, List.length_singleton]; omega)
      have hnb : mkS (nm base at' first j ++ [98]) ∉ taken := fun q => ht _ q (by unfold endsB; rw [mkS_cps]; simp)
      unfold turnF
      have z3 : (j : Int) % 2 = ((j % 2 : Nat) : Int) := by omega
      by_cases h1 : tails = 1
      · have d1 : decide ((tails : Int) = 1) = true := by simp; omega
        by_cases h2 : j % 2 = 1
        · have d2 : decide (((j % 2 : Nat) : Int) = 1) = true := by simp; omega
          simp (disch := omega) only [xgN, bind_okE, xSeq, xAsg, xSIf, xOr, xAnd, xT, x2, xSl, xONone, xOSome, xP, xVar0, xVarS, xCallF, xCons, xNil, vMulL, vAdd, z2, s2, p1, p2, xfrz_p, Int.toNat_natCast, q1, q2, vEqI, vMod, z3, xbT, if_true, Bool.false_eq_true, if_false, xDrop, xM, hty, List.set_cons_zero, List.set_cons_succ, vInRo, d1, d2, hbS, q3, hap]
          refine Nd.ok ?_; exact fin [98] _ _ hnb (by simp) (by simp)
        · have d2 : decide (((j % 2 : Nat) : Int) = 1) = false := by simp; omega
          by_cases hin : mkS (nm base at' first j) ∈ taken
          · simp (disch := omega) only [xgN, bind_okE, xSeq, xAsg, xSIf, xOr, xAnd, xT, x2, xSl, xONone, xOSome, xP, xVar0, xVarS, xCallF, xCons, xNil, vMulL, vAdd, z2, s2, p1, p2, xfrz_p, Int.toNat_natCast, q1, q2, vEqI, vMod, z3, xbT, if_true, Bool.false_eq_true, if_false, xDrop, xM, hty, List.set_cons_zero, List.set_cons_succ, vInRo, d1, d2, hbS, q3, hap, hin, decide_true]
            refine Nd.ok ?_; exact fin [98] _ _ hnb (by simp) (by simp)
          · have := fin []
            rw [List.append_nil] at this
            simp (disch := omega) only [xgN, bind_okE, xSeq, xAsg, xSIf, xOr, xAnd, xT, x2, xSl, xONone, xOSome, xP, xVar0, xVarS, xCallF, xCons, xNil, vMulL, vAdd, z2, s2, p1, p2, xfrz_p, Int.toNat_natCast, q1, q2, vEqI, vMod, z3, xbT, if_true, Bool.false_eq_true, if_false, xDrop, xM, hty, List.set_cons_zero, List.set_cons_succ, vInRo, d1, d2, hap, hin, decide_false, xSNil]
            refine Nd.ok ?_; exact this _ _ hin (by simp) (by simp)
      · have d1 : decide ((tails : Int) = 1) = false := by simp; omega
        by_cases hin : mkS (nm base at' first j) ∈ taken
        · simp (disch := omega) only [xgN, bind_okE, xSeq, xAsg, xSIf, xOr, xAnd, xT, x2, xSl, xONone, xOSome, xP, xVar0, xVarS, xCallF, xCons, xNil, vMulL, vAdd, z2, s2, p1, p2, xfrz_p, Int.toNat_natCast, q1, q2, vEqI, vMod, z3, xbT, if_true, Bool.false_eq_true, if_false, xDrop, xM, hty, List.set_cons_zero, List.set_cons_succ, vInRo, d1, hbS, q3, hap, hin, decide_true]
          refine Nd.ok ?_; exact fin [98] _ _ hnb (by simp) (by simp)
        · have := fin []
          rw [List.append_nil] at this
          simp (disch := omega) only [xgN, bind_okE, xSeq, xAsg, xSIf, xOr, xAnd, xT, x2, xSl, xONone, xOSome, xP, xVar0, xVarS, xCallF, xCons, xNil, vMulL, vAdd, z2, s2, p1, p2, xfrz_p, Int.toNat_natCast, q1, q2, vEqI, vMod, z3, xbT, if_true, Bool.false_eq_true, if_false, xDrop, xM, hty, List.set_cons_zero, List.set_cons_succ, vInRo, d1, hap, hin, decide_false, xSNil]
          refine Nd.ok ?_; exact this _ _ hin (by simp) (by simp)
    · rintro ρ S' ⟨ws, v, w, rfl, rfl, hw, sh, nd, nt⟩
      simp only [xRet, xVar0, xVarS, bind_okE]
      exact .ok ⟨ws, l5, rfl, rfl, h5, hw, nd, nt⟩
end Gn
set_option Elab.async false
set_option linter.all false
set_option maxRecDepth 100000
set_option maxHeartbeats 4000000
namespace Gn
open Cw L2
open PySem hiding Run
variable {iN iS iA iM : Nat}

/-! ### books -/
abbrev Mk := Str × List Str
abbrev Kd := Str × List Mk
def encM (m : Mk) : P := .tup [.str m.1, .tup (m.2.map .str)]
def encK (k : Kd) : P := .tup [.str k.1, .tup (k.2.map encM)]
def encB (b : List Kd) : P := .tup (b.map encK)
def num : Str := "num"
structure BookOk (b : List Kd) : Prop where
  pos : 1 ≤ b.length
  len : b.length ≤ 6
  nd : (b.map (·.1)).Nodup
  nn : ∀ k ∈ b, k.1 ≠ num
  kw : ∀ k ∈ b, Word k.1
  mk1 : ∀ k ∈ b, 1 ≤ k.2.length
  mks : ∀ k ∈ b, k.2.length ≤ 6
  mn : (b.flatMap fun k => k.2.map (·.1)).Nodup
  mw : ∀ k ∈ b, ∀ m ∈ k.2, Word m.1
  fl : ∀ k ∈ b, ∀ m ∈ k.2, m.2.length ≤ 4
  ff : ∀ k ∈ b, ∀ m ∈ k.2, ∀ f ∈ m.2, f = num ∨ f ∈ b.map (·.1)
/-- a make, by the names of kinds -/
def MOk (ks : List Str) (m : Mk) : Prop := m.2.length ≤ 4 ∧ Word m.1 ∧ ∀ f ∈ m.2, f = num ∨ f ∈ ks
def nmsOf (b : List Kd) : List Str := b.flatMap fun k => k.2.map (·.1)
def RowsOk (ks mks : List Str) (b : List Kd) : Prop := (nmsOf b ++ mks).Nodup ∧ (∀ w ∈ mks, Word w) ∧ ∀ k ∈ b, 1 ≤ k.2.length ∧ k.2.length ≤ 6 ∧ ∀ m ∈ k.2, MOk ks m
theorem frzSt {S : Sto} {n : Nat} {l : List P} {G : Sto} {xs : List P} : frz (S.length + G.length) (.ref (S.length + G.length)) (St S n l (G ++ [.lst xs])) = .ok (.p (.ro xs)) (St S n l G) := by
  have := frz_new (S := St S n l G) (xs := xs)
  rw [St_len, St_app] at this
  exact this
theorem fields_E (run : Run) (hx : NextOk run iN) {S : Sto} {n : Nat} (hn : n < S.length) {l : List P} (hl : PoolOk l) (G : Sto) (ams : List Str) (h0 : 0 < ams.length) (h1 : ams.length ≤ 1000) (size : Nat) (hs : size ≤ 100) {xs0 : List P} {a1 a2 a3 a4 a5 a6 a7 a9 a10 a11 a12 a13 a14 : Option D} :
    Nd (compL (gN 14) cYes (c2 gIx (cVar 8) (cCallF run iN (cCons (cVar 0) (cCons (c1 gLen (cCons (cVar 8) cNil)) cNil)))) none xs0 (rangeP 0 size) [] [some (.ref n), a1, a2, a3, a4, a5, a6, a7, some (.p (.ro (ams.map .str))), a9, a10, a11, a12, a13, a14] (St S n l G))
      fun ys S' => ∃ (l' : List P) (fs : List Str), ys = fs.map .str ∧ fs.length = size ∧ S' = St S n l' G ∧ PoolOk l' ∧ ∀ f ∈ fs, f ∈ ams := by
  obtain ⟨ys, S', e1, ⟨l', fs, e, e2, h, hf⟩, e3⟩ := compL_ind (g := gN 14) (e := c2 gIx (cVar 8) (cCallF run iN (cCons (cVar 0) (cCons (c1 gLen (cCons (cVar 8) cNil)) cNil)))) (xs0 := xs0) (ρ := [some (.ref n), a1, a2, a3, a4, a5, a6, a7, some (.p (.ro (ams.map .str))), a9, a10, a11, a12, a13, a14])
    (fun acc S' => ∃ (l' : List P) (fs : List Str), acc = fs.map .str ∧ S' = St S n l' G ∧ PoolOk l' ∧ ∀ f ∈ fs, f ∈ ams) (rangeP 0 size) [] (St S n l G) ⟨l, [], rfl, rfl, hl, by simp⟩ (by rw [range_len, List.length_nil]; omega) (by
      rintro x hx2 acc S' ⟨l1, fs, rfl, rfl, h, hf⟩
      obtain ⟨d, l2, e, h2, b⟩ := draw hx hn h G (ams.length : Int) (by omega) (by omega)
      have hd : d < ams.length := by omega
      refine ⟨_, _, .str ams[d], _, rfl, ?_, l2, fs ++ [ams[d]], by rw [List.map_append]; rfl, rfl, h2, fun f hf2 => by
        rcases List.mem_append.mp hf2 with q | q
        · exact hf f q
        · rw [List.mem_singleton] at q
          subst q; exact List.getElem_mem hd⟩
      have hg := vIxRoN (xs := ams.map P.str) (d := d) (x := .str ams[d]) (St S n l2 G) (by rw [List.getElem?_map, List.getElem?_eq_getElem hd]; rfl)
      simp only [x2, xVar0, xVarS, List.set_cons_zero, List.set_cons_succ, bind_okE, xCallF, xCons, x1, xNil, vLenRo, List.length_map, e, xfrz_p, hg])
  rw [range_len, List.length_nil, Nat.zero_add] at e3
  exact ⟨ys, S', e1, l', fs, e, by rw [← e3, e, List.length_map], e2, h, hf⟩
theorem len_map_str (xs : List Str) : (xs.map P.str).length = xs.length := List.length_map _
theorem min_nat (a b : Nat) (c : Int) (h : (b : Int) = c) : min (a : Int) c = ((min a b : Nat) : Int) := by omega
theorem body_book (run : Run) (hx : NextOk run iN) (hN : NamesOk run iM) {S : Sto} {n : Nat} (hn : n < S.length) {l : List P} (hl : PoolOk l) :
    Nd (b_law_book iN iS iA iM run [some (.ref n), none, none, none, none, none, none, none, none, none, none, none, none, none, none] (St S n l [])) fun f S' =>
      ∃ (b : List Kd) (l' : List P) (G : Sto), f = .rt (.p (encB b)) ∧ S' = St S n l' G ∧ BookOk b := by
  obtain ⟨d1, l1, e1, h1, b1⟩ := draw hx hn hl [] 8 (by omega) (by omega)
  obtain ⟨d2, l2, e2, h2, b2⟩ := draw hx hn h1 [] 8 (by omega) (by omega)
  unfold b_law_book
  -- how many
  refine seqN (J := fun ρ S' => ∃ m : Nat, 1 ≤ m ∧ m ≤ 6 ∧ ρ = [some (.ref n), some (.p (.int m)), none, none, none, none, none, none, none, none, none, none, none, none, none] ∧ S' = St S n l1 []) ?_ ?_
  · have t1 : ∀ S, gIx (.p (.ro [.int 1, .int 2, .int 2, .int 3, .int 3, .int 4, .int 4, .int 6])) (.p (.int d1)) S = _ := tabN [1, 2, 2, 3, 3, 4, 4, 6] d1 (by show d1 < 8; omega)
    have hb : ∀ x ∈ [1, 2, 2, 3, 3, 4, 4, 6], 1 ≤ x ∧ x ≤ 6 := by decide
    have hb := hb _ (List.getElem_mem (show d1 < [1, 2, 2, 3, 3, 4, 4, 6].length by show d1 < 8; omega))
    generalize ([1, 2, 2, 3, 3, 4, 4, 6] : List Nat)[d1]'_ = m at t1 hb
    simp only [xAsg, x2, xRo, xLst, xCons, xP, xNil, bind_okE, allP, Option.map_some, xCallF, xVar0, e1, xfrz_p, t1, xgN, List.set_cons_zero, List.set_cons_succ, List.length_cons, List.length_nil, sizeLine_val, Nat.reduceAdd, Nat.reduceLeDiff, if_true]
    exact .ok ⟨_, rfl, m, hb.1, hb.2, rfl, rfl⟩
  rintro ρ S' ⟨m0, hm1, hm2, rfl, rfl⟩
  -- chain
  refine seqN (J := fun ρ S' => ∃ c : Bool, ρ = [some (.ref n), some (.p (.int m0)), some (.p (.bl c)), none, none, none, none, none, none, none, none, none, none, none, none] ∧ S' = St S n l2 []) ?_ ?_
  · simp only [xAsg, x2, xCons, xP, xNil, bind_okE, xCallF, xVar0, e2, xfrz_p, vEqI, xgN, List.set_cons_zero, List.set_cons_succ]
    exact .ok ⟨_, rfl, _, rfl, rfl⟩
  rintro ρ S' ⟨c, rfl, rfl⟩
  refine seqN (J := fun ρ S' => ∃ (m : Nat) (l : List P), 1 ≤ m ∧ m ≤ 6 ∧ PoolOk l ∧ ρ = [some (.ref n), some (.p (.int m)), some (.p (.bl c)), none, none, none, none, none, none, none, none, none, none, none, none] ∧ S' = St S n l []) ?_ ?_
  · simp only [xSIf, xTru, xVar0, xVarS, bind_okE, truD]
    cases c with
    | false => simp only [Bool.false_eq_true, if_false, xSNil]; exact .ok ⟨_, rfl, m0, l2, hm1, hm2, h2, rfl, rfl⟩
    | true =>
      obtain ⟨d3, l3, e3, h3, b3⟩ := draw hx hn h2 [] 3 (by omega) (by omega)
      have z : (4 : Int) + (d3 : Int) = ((4 + d3 : Nat) : Int) := by omega
      simp only [if_true, xAsg, x2, xP, bind_okE, xCallF, xCons, xNil, xVar0, e3, xfrz_p, vAdd, z, xgN, List.set_cons_zero, List.set_cons_succ]
      exact .ok ⟨_, rfl, 4 + d3, l3, by omega, by omega, h3, rfl, rfl⟩
  clear hm1 hm2 m0
  rintro ρ S' ⟨m, l3, hm1, hm2, h3, rfl, rfl⟩
  -- kinds
  have hnum : ¬ endsB num := by unfold endsB; decide +kernel
  obtain ⟨ks, l4, e4, h4, k1, k2, k3⟩ := hN S n l3 [] m [num] hn h3 (by simp; omega) (by simp [hnum])
  refine seqN (J := fun ρ S' => ρ = [some (.ref n), some (.p (.int m)), some (.p (.bl c)), some (.p (.ro (ks.map .str))), none, none, none, none, none, none, none, none, none, none, none] ∧ S' = St S n l4 []) ?_ ?_
  · have e4 : run iM [.ref n, .p (.int m), .p (.ro [.str ("num" : Str)])] (St S n l3 []) = .ok (.ref (S.length + 0)) (St S n l4 ([] ++ [.lst (ks.map .str)])) := e4
    have f4 : frz (S.length + 0) (.ref (S.length + 0)) (St S n l4 ([] ++ [.lst (ks.map .str)])) = .ok (.p (.ro (ks.map .str))) (St S n l4 []) := frzSt (G := [])
    simp only [xAsg, xCallF, xCons, xVar0, xVarS, xRo, xLst, xP, xNil, bind_okE, allP, Option.map_some, List.length_cons, List.length_nil, sizeLine_val, Nat.zero_add, Nat.reduceLeDiff, if_true, e4, St_len, f4, xgN, List.set_cons_zero, List.set_cons_succ]
    exact .ok ⟨_, rfl, rfl, rfl⟩
  rintro ρ S' ⟨rfl, rfl⟩
  -- makes
  obtain ⟨mks, l5, e5, h5, m1, m2, m3⟩ := hN S n l4 [] 26 [] hn h4 (by simp) (by simp)
  refine seqN (J := fun ρ S' => ρ = [some (.ref n), some (.p (.int m)), some (.p (.bl c)), some (.p (.ro (ks.map .str))), some (.ref S.length), none, none, none, none, none, none, none, none, none, none] ∧ S' = St S n l5 [.lst (mks.map .str)]) ?_ ?_
  · have e5 : run iM [.ref n, .p (.int 26), .p (.ro [])] (St S n l4 []) = .ok (.ref S.length) (St S n l5 [.lst (mks.map .str)]) := e5
    simp only [xAsg, xCall, xCons, xVar0, xVarS, xRo, xLst, xP, xNil, bind_okE, allP, List.length_nil, sizeLine_val, Nat.zero_le, if_true, e5, xgN, List.set_cons_zero, List.set_cons_succ]
    exact .ok ⟨_, rfl, rfl, rfl⟩
  rintro ρ S' ⟨rfl, rfl⟩
  -- book
  refine seqN (J := fun ρ S' => ρ = [some (.ref n), some (.p (.int m)), some (.p (.bl c)), some (.p (.ro (ks.map .str))), some (.ref S.length), some (.ref (S.length + 1)), none, none, none, none, none, none, none, none, none] ∧ S' = St S n l5 [.lst (mks.map .str), .lst []]) ?_ ?_
  · simp only [xAsg, xTr, xLst, xNil, bind_okE, allP, List.length_nil, sizeLine_val, Nat.zero_le, if_true, St_len, St_app, List.length_cons, List.length_nil, Nat.zero_add, xgN, List.set_cons_zero, List.set_cons_succ]
    exact .ok ⟨_, rfl, rfl, rfl⟩
  rintro ρ S' ⟨rfl, rfl⟩
  -- the rows
  refine seqN (J := fun ρ S' => ∃ (b : List Kd) (l : List P) (mks : List Str) (J : Sto) (v6 v7 v8 v9 v10 v11 v12 v14 : Option D), ρ = [some (.ref n), some (.p (.int m)), some (.p (.bl c)), some (.p (.ro (ks.map .str))), some (.ref S.length), some (.ref (S.length + 1)), v6, v7, v8, v9, v10, v11, v12, none, v14] ∧
    S' = St S n l ([.lst (mks.map .str), .lst (b.map encK)] ++ J) ∧ PoolOk l ∧ b.map (·.1) = ks ∧ RowsOk ks mks b) ?_ ?_
  · simp (disch := omega) only [xFor, xRng1, xVar0, xVarS, bind_okE, rngOk_nat, if_true, Int.toNat_natCast]
    refine rangeE1 (fun at' ρ S' => ∃ (b : List Kd) (l : List P) (mks : List Str) (J : Sto) (v6 v7 v8 v9 v10 v11 v12 v14 : Option D), ρ = [some (.ref n), some (.p (.int m)), some (.p (.bl c)), some (.p (.ro (ks.map .str))), some (.ref S.length), some (.ref (S.length + 1)), v6, v7, v8, v9, v10, v11, v12, none, v14] ∧
      S' = St S n l ([.lst (mks.map .str), .lst (b.map encK)] ++ J) ∧ PoolOk l ∧ b.map (·.1) = ks.take at' ∧ m ≤ mks.length + at' ∧ RowsOk ks mks b)
      ⟨[], l5, mks, [], none, none, none, none, none, none, none, none, rfl, rfl, h5, rfl, by omega, ⟨m2, fun w hw => (m3 w hw).2, by simp⟩⟩ ?_ ?_
    · clear m1 m2 m3 e5 h5 l5 mks e4 h4 l4 e1 e2 h1 h2 l1 l2 b1 b2 d1 d2 h3 l3
      rintro at' ρ S' hat ⟨b, l1, mks, J, v6, v7, v8, v9, v10, v11, v12, v14, rfl, rfl, h1, hb, hmk, hrow⟩
      refine Nd.go ?_
      unfold turnF
      simp only [xgN, bind_okE, List.set_cons_zero, List.set_cons_succ]
      -- some
      refine seqN (J := fun ρ S' => ρ = [some (.ref n), some (.p (.int m)), some (.p (.bl c)), some (.p (.ro (ks.map .str))), some (.ref S.length), some (.ref (S.length + 1)), some (.p (.int at')), some (.ref (S.length + (J.length + 2))), v8, v9, v10, v11, v12, none, v14] ∧
        S' = St S n l1 ([.lst (mks.map .str), .lst (b.map encK)] ++ (J ++ [.lst []]))) ?_ ?_
      · simp only [xAsg, xTr, xLst, xNil, bind_okE, allP, List.length_nil, sizeLine_val, Nat.zero_le, if_true, St_len, St_app, xgN, List.set_cons_zero, List.set_cons_succ]
        exact .ok ⟨_, rfl, rfl, by rw [List.append_assoc]⟩
      rintro ρ S' ⟨rfl, rfl⟩
      -- among
      refine seqN (J := fun ρ S' => ∃ ams : List Str, 0 < ams.length ∧ ams.length ≤ 1000 ∧ (∀ f ∈ ams, f = num ∨ f ∈ ks) ∧ ρ = [some (.ref n), some (.p (.int m)), some (.p (.bl c)), some (.p (.ro (ks.map .str))), some (.ref S.length), some (.ref (S.length + 1)), some (.p (.int at')), some (.ref (S.length + (J.length + 2))), some (.p (.ro (ams.map .str))), v9, v10, v11, v12, none, v14] ∧
        S' = St S n l1 ([.lst (mks.map .str), .lst (b.map encK)] ++ (J ++ [.lst []]))) ?_ ?_
      · have a1 := fun S => vAddRR (x := .p (.ro (ks.map .str))) (y := .p (.ro [.str ("num" : Str), .str ("num" : Str)])) (S := S) rfl rfl (by rw [List.length_map, List.length_cons, List.length_singleton]; omega)
        have z : (at' : Int) + 1 = ((at' + 1 : Nat) : Int) := by omega
        have a2 := fun S => vSlPost (d := .p (.ro (ks.map P.str))) (xs := ks.map P.str) (k := ((at' + 1 : Nat) : Int)) S (by simp) (by simp) rfl (by omega) (by rw [List.length_map]; omega)
        have a3 := fun S => vAddRR (x := .p (.ro ((ks.map P.str).drop (at' + 1)))) (y := .p (.ro [.str ("num" : Str)])) (S := S) rfl rfl (by rw [List.length_drop, List.length_map, List.length_singleton]; omega)
        have i0 : ∀ (x y : P) S, gIx (.p (.ro [x, y])) (.p (.int 0)) S = .ok (.p x) S := fun x y S => vIxRo S (by omega) rfl
        have i1 : ∀ (x y : P) S, gIx (.p (.ro [x, y])) (.p (.int 1)) S = .ok (.p y) S := fun x y S => vIxRo S (by omega) rfl
        simp only [xAsg, x2, x1, xRo, xLst, xCons, xP, xNil, bind_okE, allP, Option.map_some, xVar0, xVarS, a1, xSl, xOSome, xONone, vAdd, z, a2, Int.toNat_natCast, a3, List.length_cons, List.length_nil, sizeLine_val, Nat.reduceAdd, Nat.reduceLeDiff, if_true, vIntB]
        cases c with
        | false =>
          simp only [Bool.false_eq_true, if_false, i0, bind_okE, xgN, List.set_cons_zero, List.set_cons_succ]
          exact .ok ⟨_, rfl, ks ++ [num, num], by simp, by simp; omega, fun f hf => by
            simp only [List.mem_append, List.mem_cons, List.not_mem_nil, or_false, or_self] at hf
            exact hf.symm, by rw [List.map_append]; rfl, rfl⟩
        | true =>
          simp only [if_true, i1, bind_okE, xgN, List.set_cons_zero, List.set_cons_succ]
          exact .ok ⟨_, rfl, ks.drop (at' + 1) ++ [num], by simp, by simp; omega, fun f hf => by
            simp only [List.mem_append, List.mem_singleton] at hf
            exact hf.symm.imp_right List.mem_of_mem_drop, by rw [List.map_append, List.map_drop]; rfl, rfl⟩
      rintro ρ S' ⟨ams, am1, am2, am3, rfl, rfl⟩
      -- count
      refine seqN (J := fun ρ S' => ∃ (C : Nat) (l : List P), 1 ≤ C ∧ C ≤ 6 ∧ C + m ≤ mks.length + at' + 1 ∧ PoolOk l ∧ ρ = [some (.ref n), some (.p (.int m)), some (.p (.bl c)), some (.p (.ro (ks.map .str))), some (.ref S.length), some (.ref (S.length + 1)), some (.p (.int at')), some (.ref (S.length + (J.length + 2))), some (.p (.ro (ams.map .str))), some (.p (.int C)), v10, v11, v12, none, v14] ∧
        S' = St S n l ([.lst (mks.map .str), .lst (b.map encK)] ++ (J ++ [.lst []]))) ?_ ?_
      · obtain ⟨d1, l2, e1, h2, b1⟩ := draw hx hn h1 ([.lst (mks.map .str), .lst (b.map encK)] ++ (J ++ [.lst []])) 8 (by omega) (by omega)
        have t1 : ∀ S, gIx (.p (.ro [.int 1, .int 2, .int 2, .int 3, .int 3, .int 2, .int 4, .int 6])) (.p (.int d1)) S = _ := tabN [1, 2, 2, 3, 3, 2, 4, 6] d1 (by show d1 < 8; omega)
        have hb : ∀ x ∈ [1, 2, 2, 3, 3, 2, 4, 6], 1 ≤ x ∧ x ≤ 6 := by decide
        have hb := hb _ (List.getElem_mem (show d1 < [1, 2, 2, 3, 3, 2, 4, 6].length by show d1 < 8; omega))
        generalize ([1, 2, 2, 3, 3, 2, 4, 6] : List Nat)[d1]'_ = w at t1 hb
        have hs := St_at (S := S) (n := n) (l := l2) (G := [.lst (mks.map .str), .lst (b.map encK)] ++ (J ++ [.lst []])) (m := S.length) (i := 0) rfl rfl
        have hl := vLenRef hs
        rw [List.length_map] at hl
        simp only [xAsg, x2, x1, xRo, xLst, xCons, xP, xNil, bind_okE, allP, Option.map_some, xCallF, xVar0, xVarS, e1, xfrz_p, t1, hl, vAdd, vSub, vMin, xgN, List.set_cons_zero, List.set_cons_succ, List.length_cons, List.length_nil, sizeLine_val, Nat.reduceAdd, Nat.reduceLeDiff, if_true]
        obtain ⟨C, hC⟩ : ∃ C : Nat, min (w : Int) ((mks.length : Int) + at' + 1 - m) = C := ⟨(min (w : Int) ((mks.length : Int) + at' + 1 - m)).toNat, by omega⟩
        rw [hC]
        exact .ok ⟨_, rfl, C, l2, by omega, by omega, by omega, h2, rfl, rfl⟩
      clear h1 l1
      rintro ρ S' ⟨C, l1, hC1, hC2, hC3, h1, rfl, rfl⟩
      -- some's rows
      have gk : ∀ (l : List P) (o1 o2 o : Ob), (St S n l ([o1, o2] ++ (J ++ [o])))[S.length + (J.length + 2)]? = some o := fun l o1 o2 o => St_at rfl (by show (o1 :: o2 :: (J ++ [o]))[J.length + 2]? = _; rw [List.getElem?_cons_succ, List.getElem?_cons_succ]; exact get_new)
      have sk : ∀ (l : List P) (o1 o2 o o' : Ob), (St S n l ([o1, o2] ++ (J ++ [o]))).set (S.length + (J.length + 2)) o' = St S n l ([o1, o2] ++ (J ++ [o'])) := fun l o1 o2 o o' => by
        rw [St_setG rfl]
        show St S n l ((o1 :: o2 :: (J ++ [o])).set (J.length + 2) o') = _
        rw [List.set_cons_succ, List.set_cons_succ]
        simp
      have g0 : ∀ (l : List P) (o1 o2 : Ob) (X : Sto), (St S n l ([o1, o2] ++ X))[S.length]? = some o1 := fun l o1 o2 X => St_at (i := 0) rfl rfl
      have s0 : ∀ (l : List P) (o1 o2 o' : Ob) (X : Sto), (St S n l ([o1, o2] ++ X)).set S.length o' = St S n l ([o', o2] ++ X) := fun l o1 o2 o' X => St_setG (i := 0) rfl
      have g1 : ∀ (l : List P) (o1 o2 : Ob) (X : Sto), (St S n l ([o1, o2] ++ X))[S.length + 1]? = some o2 := fun l o1 o2 X => St_at (i := 1) rfl rfl
      have s1 : ∀ (l : List P) (o1 o2 o' : Ob) (X : Sto), (St S n l ([o1, o2] ++ X)).set (S.length + 1) o' = St S n l ([o1, o'] ++ X) := fun l o1 o2 o' X => St_setG (i := 1) rfl
      refine seqN (J := fun ρ S' => ∃ (sm : List Mk) (l : List P) (mks : List Str) (v10 v11 v12 v14 : Option D), ρ = [some (.ref n), some (.p (.int m)), some (.p (.bl c)), some (.p (.ro (ks.map .str))), some (.ref S.length), some (.ref (S.length + 1)), some (.p (.int at')), some (.ref (S.length + (J.length + 2))), some (.p (.ro (ams.map .str))), some (.p (.int C)), v10, v11, v12, none, v14] ∧
        S' = St S n l ([.lst (mks.map .str), .lst (b.map encK)] ++ (J ++ [.lst (sm.map encM)])) ∧ PoolOk l ∧ sm.length = C ∧ ((∀ m ∈ sm, MOk ks m) ∧ (nmsOf b ++ sm.map (·.1) ++ mks).Nodup ∧ ∀ w ∈ mks, Word w) ∧ m ≤ mks.length + (at' + 1)) ?_ ?_
      · simp (disch := omega) only [xFor, xRng1, xVar0, xVarS, bind_okE, rngOk_nat, if_true, Int.toNat_natCast]
        refine rangeE1 (fun j ρ S' => ∃ (sm : List Mk) (l : List P) (mks : List Str) (v10 v11 v12 v14 : Option D), ρ = [some (.ref n), some (.p (.int m)), some (.p (.bl c)), some (.p (.ro (ks.map .str))), some (.ref S.length), some (.ref (S.length + 1)), some (.p (.int at')), some (.ref (S.length + (J.length + 2))), some (.p (.ro (ams.map .str))), some (.p (.int C)), v10, v11, v12, none, v14] ∧
          S' = St S n l ([.lst (mks.map .str), .lst (b.map encK)] ++ (J ++ [.lst (sm.map encM)])) ∧ PoolOk l ∧ sm.length = j ∧ ((∀ m ∈ sm, MOk ks m) ∧ (nmsOf b ++ sm.map (·.1) ++ mks).Nodup ∧ ∀ w ∈ mks, Word w) ∧ C + m ≤ mks.length + j + at' + 1)
          ⟨[], l1, mks, v10, v11, v12, v14, rfl, rfl, h1, rfl, ⟨by simp, by simpa using hrow.1, hrow.2.1⟩, by omega⟩ ?_ ?_
        · have hrowk := hrow.2.2
          clear h1 l1 v10 v11 v12 v14 hC3 hmk hrow mks
          rintro j ρ S' hj ⟨sm, l1, mks, v10, v11, v12, v14, rfl, rfl, h1, hsm, hs4, hmk⟩
          refine Nd.go ?_
          unfold turnF
          simp only [xgN, bind_okE, List.set_cons_zero, List.set_cons_succ]
          obtain ⟨d1, l2, e1, h2, b1⟩ := draw hx hn h1 ([.lst (mks.map .str), .lst (b.map encK)] ++ (J ++ [.lst (sm.map encM)])) 8 (by omega) (by omega)
          refine seqN (J := fun ρ S' => ∃ sz : Nat, sz ≤ 4 ∧ ρ = [some (.ref n), some (.p (.int m)), some (.p (.bl c)), some (.p (.ro (ks.map .str))), some (.ref S.length), some (.ref (S.length + 1)), some (.p (.int at')), some (.ref (S.length + (J.length + 2))), some (.p (.ro (ams.map .str))), some (.p (.int C)), some (.p (.int j)), some (.p (.int sz)), v12, none, v14] ∧
            S' = St S n l2 ([.lst (mks.map .str), .lst (b.map encK)] ++ (J ++ [.lst (sm.map encM)]))) ?_ ?_
          · have t1 : ∀ S, gIx (.p (.ro [.int 0, .int 0, .int 1, .int 1, .int 2, .int 2, .int 3, .int 4])) (.p (.int d1)) S = _ := tabN [0, 0, 1, 1, 2, 2, 3, 4] d1 (by show d1 < 8; omega)
            have hb : ∀ x ∈ [0, 0, 1, 1, 2, 2, 3, 4], x ≤ 4 := by decide
            have hb := hb _ (List.getElem_mem (show d1 < [0, 0, 1, 1, 2, 2, 3, 4].length by show d1 < 8; omega))
            generalize ([0, 0, 1, 1, 2, 2, 3, 4] : List Nat)[d1]'_ = w at t1 hb
            simp only [xAsg, x2, xRo, xLst, xCons, xP, xNil, bind_okE, allP, Option.map_some, xCallF, xVar0, e1, xfrz_p, t1, xgN, List.set_cons_zero, List.set_cons_succ, List.length_cons, List.length_nil, sizeLine_val, Nat.reduceAdd, Nat.reduceLeDiff, if_true]
            exact .ok ⟨_, rfl, w, hb, rfl, rfl⟩
          rintro ρ S' ⟨sz, hsz, rfl, rfl⟩
          refine seqN (J := fun ρ S' => ∃ (fs : List Str) (l : List P) (v14 : Option D), (fs.length ≤ 4 ∧ ∀ f ∈ fs, f ∈ ams) ∧ PoolOk l ∧ ρ = [some (.ref n), some (.p (.int m)), some (.p (.bl c)), some (.p (.ro (ks.map .str))), some (.ref S.length), some (.ref (S.length + 1)), some (.p (.int at')), some (.ref (S.length + (J.length + 2))), some (.p (.ro (ams.map .str))), some (.p (.int C)), some (.p (.int j)), some (.p (.int sz)), some (.p (.ro (fs.map .str))), none, v14] ∧
            S' = St S n l ([.lst (mks.map .str), .lst (b.map encK)] ++ (J ++ [.lst (sm.map encM)]))) ?_ ?_
          · obtain ⟨ys, S2, e2, l3, fs, rfl, hf, rfl, h3, hf2⟩ := fields_E run hx hn h2 ([.lst (mks.map .str), .lst (b.map encK)] ++ (J ++ [.lst (sm.map encM)])) ams am1 am2 sz (by omega) (xs0 := rangeP 0 sz) (a1 := some (.p (.int m))) (a2 := some (.p (.bl c))) (a3 := some (.p (.ro (ks.map .str)))) (a4 := some (.ref S.length)) (a5 := some (.ref (S.length + 1))) (a6 := some (.p (.int at'))) (a7 := some (.ref (S.length + (J.length + 2)))) (a9 := some (.p (.int C))) (a10 := some (.p (.int j))) (a11 := some (.p (.int sz))) (a12 := v12) (a13 := none) (a14 := none)
            simp (disch := omega) only [xAsg, xRo, xComp, xRng1, xVar0, xVarS, bind_okE, rngOk_nat, if_true, Int.toNat_natCast, wipeE, List.set_cons_zero, List.set_cons_succ, e2, xgN]
            exact .ok ⟨_, rfl, fs, l3, _, ⟨by omega, hf2⟩, h3, rfl, rfl⟩
          clear h2 l2 e1 h1 l1 d1 b1 v12 v14
          rintro ρ S' ⟨fs, l1, v14, hfs, h1, rfl, rfl⟩
          refine seqN (J := fun ρ S' => ∃ (fs : List Str), (fs.length ≤ 4 ∧ ∀ f ∈ fs, f ∈ ams) ∧ ρ = [some (.ref n), some (.p (.int m)), some (.p (.bl c)), some (.p (.ro (ks.map .str))), some (.ref S.length), some (.ref (S.length + 1)), some (.p (.int at')), some (.ref (S.length + (J.length + 2))), some (.p (.ro (ams.map .str))), some (.p (.int C)), some (.p (.int j)), some (.p (.int sz)), some (.p (.ro (fs.map .str))), none, v14] ∧
            S' = St S n l1 ([.lst (mks.map .str), .lst (b.map encK)] ++ (J ++ [.lst (sm.map encM)]))) ?_ ?_
          · simp only [xSIf, xTru, xVar0, xVarS, bind_okE, truD]
            cases c with
            | false => simp only [Bool.false_eq_true, if_false, xSNil]; exact .ok ⟨_, rfl, fs, hfs, rfl, rfl⟩
            | true =>
              have p1 : ∀ S, gSl (.p (.ro (fs.map P.str))) none (some 3) S = _ := fun S => vSlTake (d := .p (.ro (fs.map P.str))) (k := 3) S (by simp) (by simp) rfl
              have p2 : ∀ S, gSl (.p (.ro (ams.map P.str))) none (some 1) S = _ := fun S => vSlTake (d := .p (.ro (ams.map P.str))) (k := 1) S (by simp) (by simp) rfl
              have p3 := fun S => vAddRR (x := .p (.ro ((fs.map P.str).take 3))) (y := .p (.ro ((ams.map P.str).take 1))) (S := S) rfl rfl (by rw [List.length_take, List.length_take, List.length_map]; omega)
              simp only [if_true, xAsg, x2, xSl, xONone, xOSome, xP, bind_okE, xVar0, xVarS, p1, p2, p3, xgN, List.set_cons_zero, List.set_cons_succ]
              exact .ok ⟨_, rfl, fs.take 3 ++ ams.take 1, ⟨by rw [List.length_append, List.length_take, List.length_take]; omega, fun f hf => by
                rcases List.mem_append.mp hf with q | q
                · exact hfs.2 f (List.mem_of_mem_take q)
                · exact List.mem_of_mem_take q⟩, by rw [List.map_append, List.map_take, List.map_take], rfl⟩
          clear hfs fs
          rintro ρ S' ⟨fs, hfs, rfl, rfl⟩
          cases mks with
          | nil => rw [List.length_nil] at hmk; omega
          | cons mn mks =>
            have hty := vTyL (gk l1 (.lst (List.map P.str (mn :: mks))) (.lst (b.map encK)) (.lst (sm.map encM)))
            have hty2 := vTyL (g0 l1 (.lst (List.map P.str (mn :: mks))) (.lst (b.map encK)) (J ++ [.lst (sm.map encM)]))
            have hpop := vPopAt0 (g0 l1 (.lst (P.str mn :: mks.map .str)) (.lst (b.map encK)) (J ++ [.lst (sm.map encM)]))
            rw [s0] at hpop
            have hap := fun y => vAppend (y := y) (gk l1 (.lst (mks.map .str)) (.lst (b.map encK)) (.lst (sm.map encM))) (by rw [List.length_map, sizeLine_eq]; omega)
            simp only [sk] at hap
            simp only [List.map_cons] at hty hty2 ⊢
            simp only [xDrop, xM, xVar0, xVarS, bind_okE, hty, hty2, if_true, xCons, xNil, xTup, x1, hpop, xP, vTupRo, allP, Option.map_some, List.length_cons, List.length_nil, sizeLine_val, Nat.reduceAdd, Nat.reduceLeDiff, hap]
            refine .ok ⟨_, rfl, sm ++ [(mn, fs)], l1, mks, _, _, _, _, rfl, ?_, h1, ?_, ⟨?_, by simpa using hs4.2.1, fun w hw => hs4.2.2 w (List.mem_cons_of_mem _ hw)⟩, ?_⟩
            · rw [List.map_append]; rfl
            · rw [List.length_append, hsm]; rfl
            · intro z hz
              rcases List.mem_append.mp hz with q | q
              · exact hs4.1 z q
              · rw [List.mem_singleton] at q
                subst q
                exact ⟨hfs.1, hs4.2.2 mn List.mem_cons_self, fun f hf => am3 f (hfs.2 f hf)⟩
            · rw [List.length_cons] at hmk; omega
        · rintro ρ S' ⟨sm, l1, mks, v10, v11, v12, v14, rfl, rfl, h1, hsm, hs4, hmk⟩
          exact ⟨_, rfl, sm, l1, mks, v10, v11, v12, v14, rfl, rfl, h1, hsm, hs4, by omega⟩
      have hrowk := hrow.2.2
      clear h1 l1 v10 v11 v12 v14 hC3 hmk hrow mks
      rintro ρ S' ⟨sm, l1, mks, v10, v11, v12, v14, rfl, rfl, h1, hsm, hs4, hmk⟩
      obtain ⟨kn, hkn⟩ : ∃ kn, ks[at']? = some kn := ⟨ks[at']'(by omega), List.getElem?_eq_getElem (by omega)⟩
      have i1 := fun S => vIxRoN (xs := ks.map P.str) (d := at') (x := .str kn) S (by rw [List.getElem?_map, hkn]; rfl)
      have hty := vTyL (g1 l1 (.lst (mks.map .str)) (.lst (b.map encK)) (J ++ [.lst (sm.map encM)]))
      have tr := vTupRef (gk l1 (.lst (mks.map .str)) (.lst (b.map encK)) (.lst (sm.map encM)))
      have hbl : b.length = at' := by
        have := congrArg List.length hb
        rw [List.length_map, List.length_take] at this
        omega
      have hap := fun y => vAppend (y := y) (g1 l1 (.lst (mks.map .str)) (.lst (b.map encK)) (J ++ [.lst (sm.map encM)])) (by rw [List.length_map, sizeLine_eq]; omega)
      simp only [s1] at hap
      simp only [xDrop, xM, xVar0, xVarS, bind_okE, hty, if_true, xCons, xNil, xTup, x2, x1, i1, tr, allP, Option.map_some, List.length_cons, List.length_nil, sizeLine_val, Nat.reduceAdd, Nat.reduceLeDiff, hap]
      refine .ok ⟨_, rfl, b ++ [(kn, sm)], l1, mks, J ++ [.lst (sm.map encM)], _, _, _, _, _, _, _, _, rfl, ?_, h1, ?_, hmk, ?_, hs4.2.2, ?_⟩
      · rw [List.map_append]; rfl
      · rw [List.map_append, hb, List.take_add_one, hkn]; rfl
      · have : nmsOf (b ++ [(kn, sm)]) = nmsOf b ++ sm.map (·.1) := by simp [nmsOf]
        rw [this]; exact hs4.2.1
      · intro k hk
        rcases List.mem_append.mp hk with q | q
        · exact hrowk k q
        · rw [List.mem_singleton] at q
          subst q
          exact ⟨show 1 ≤ sm.length by omega, show sm.length ≤ 6 by omega, hs4.1⟩
    · rintro ρ S' ⟨b, l1, mks, J, v6, v7, v8, v9, v10, v11, v12, v14, rfl, rfl, h1, hb, hmk, hrow⟩
      rw [List.take_of_length_le (by omega)] at hb
      exact ⟨_, rfl, b, l1, mks, J, v6, v7, v8, v9, v10, v11, v12, v14, rfl, rfl, h1, hb, hrow⟩
  rintro ρ S' ⟨b, l6, mks, J, v6, v7, v8, v9, v10, v11, v12, v14, rfl, rfl, h6, hb, hrow⟩
  obtain ⟨d7, l7, e7, h7, b7⟩ := draw hx hn h6 ([.lst (mks.map .str), .lst (b.map encK)] ++ J) (m : Int) (by omega) (by omega)
  have hbl : b.length = m := by
    have := congrArg List.length hb
    rw [List.length_map] at this
    omega
  have hs := St_at (S := S) (n := n) (l := l7) (G := [.lst (mks.map .str), .lst (b.map encK)] ++ J) (m := S.length + 1) (i := 1) rfl rfl
  have p1 := vSlPost (d := .ref (S.length + 1)) (xs := b.map encK) (k := (d7 : Int)) _ (by simp) (by simp) (seq_ref hs) (by omega) (by rw [List.length_map]; omega)
  have p2 := vSlPre (d := .ref (S.length + 1)) (xs := b.map encK) (k := (d7 : Int)) _ (by simp) (by simp) (seq_ref hs) (by omega) (by rw [List.length_map]; omega)
  have p3 := fun S => vAddRR (x := .p (.ro ((b.map encK).drop d7))) (y := .p (.ro ((b.map encK).take d7))) (S := S) rfl rfl (by rw [List.length_drop, List.length_take, List.length_map]; omega)
  simp only [xSeq, xAsg, xCallF, xCons, xVar0, xVarS, xNil, bind_okE, e7, xfrz_p, xgN, List.set_cons_zero, List.set_cons_succ, xRet, x1, x2, xSl, xOSome, xONone, p1, p2, Int.toNat_natCast, p3, vTupRo]
  have he : (b.map encK).drop d7 ++ (b.map encK).take d7 = (b.drop d7 ++ b.take d7).map encK := by rw [List.map_append, List.map_drop, List.map_take]
  have hmem : ∀ k, k ∈ b.drop d7 ++ b.take d7 → k ∈ b := fun k hk => by
    rcases List.mem_append.mp hk with q | q
    · exact List.mem_of_mem_drop q
    · exact List.mem_of_mem_take q
  rw [he]
  have q : (b.drop d7 ++ b.take d7).Perm b := List.perm_append_comm.trans (by rw [List.take_append_drop])
  have hks : ∀ f, f ∈ (b.drop d7 ++ b.take d7).map (fun k : Kd => k.1) ↔ f ∈ ks := fun f => by rw [← hb]; exact (q.map _).mem_iff
  refine .ok ⟨b.drop d7 ++ b.take d7, l7, _, rfl, rfl, ⟨?_, ?_, ?_, ?_, ?_, fun k hk => (hrow.2.2 k (hmem k hk)).1, fun k hk => (hrow.2.2 k (hmem k hk)).2.1, ?_, fun k hk m hm => ((hrow.2.2 k (hmem k hk)).2.2 m hm).2.1, fun k hk m hm => ((hrow.2.2 k (hmem k hk)).2.2 m hm).1,
    fun k hk m hm f hf => (((hrow.2.2 k (hmem k hk)).2.2 m hm).2.2 f hf).imp_right (hks f).mpr⟩⟩
  · rw [q.length_eq]; omega
  · rw [q.length_eq]; omega
  · exact ((q.map (fun k : Kd => k.1)).nodup_iff).mpr (by rw [hb]; exact k2)
  · intro k hk e
    have : k.1 ∈ b.map (fun k : Kd => k.1) := List.mem_map_of_mem (hmem k hk)
    rw [hb] at this
    exact (k3 _ this).1 (by rw [e]; simp)
  · intro k hk
    have : k.1 ∈ b.map (fun k : Kd => k.1) := List.mem_map_of_mem (hmem k hk)
    rw [hb] at this
    exact (k3 _ this).2
  · exact ((q.flatMap_right _).nodup_iff).mpr (List.nodup_append.mp hrow.1).1
end Gn
set_option Elab.async false
set_option linter.all false
set_option maxRecDepth 100000
set_option maxHeartbeats 4000000
/-! Gn5: what has values by a book; _law_made, _law_plains (iD: where _law_made stands), _law_come. -/
namespace Gn
open Cw L2
open PySem hiding Run
variable {iD : Nat}
/-- _law_made(makes, known): makes=0 known=1 name=2 fields=3 field=4 -/
def b_law_made (iD : Nat) (run : Run) : CS :=
  (sSeq (sFor (cIt (cVar 0)) (gTp 2 (gsCons (gN 2) (gsCons (gN 3) gsNil)))
    (sIf (cTru (c1 gAll (cCons (cRo (cComp (cIt (cVar 3)) (gN 4) cYes (c2 (gInB false) (cVar 4) (cVar 1)) [4])) cNil)))
    (sRet (c2 gAdd (cTup (cCons (cVar 2) cNil)) (c1 gTuple (cCons (cRo (cComp (cIt (cVar 3)) (gN 4) cYes (c2 gIx (cVar 1) (cVar 4)) [4])) cNil))))
    sNil))
  (sRet (cP .non)))
/-- _law_plains(book): book=0 known=1 turn=2 ahead=3 kind=4 makes=5 value=6 -/
def b_law_plains (iD : Nat) (run : Run) : CS :=
  (sSeq (sAsg (cDt (cDisp [((cP (.str "num")), (cP (.int 0)))])) (gN 1))
  (sSeq (sFor (cRng1 (c1 gLen (cCons (cVar 0) cNil))) (gN 2)
    (sSeq (sAsg (cDo (cDCopy (cVar 1))) (gN 3))
  (sFor (cIt (cVar 0)) (gTp 2 (gsCons (gN 4) (gsCons (gN 5) gsNil)))
    (sSeq (sAsg (cCallF run iD (cCons (cVar 5) (cCons (cVar 3) cNil))) (gN 6))
  (sIf (cAnd (cT (c2 (gInB true) (cVar 4) (cVar 3))) (cT (c2 (gIs true) (cVar 6) (cP .non))))
    (sAsg (cVar 6) (gAt (cVar 1) (cVar 4)))
    sNil)))))
  (sRet (cVar 1))))
/-- _law_come(book, known, kind): book=0 known=1 kind=2 found=3 name=4 makes=5 make=6 field=7 -/
def b_law_come (iD : Nat) (run : Run) : CS :=
  (sSeq (sAsg (cRo (cLst cNil)) (gN 3))
  (sSeq (sFor (cIt (cVar 0)) (gTp 2 (gsCons (gN 4) (gsCons (gN 5) gsNil)))
    (sIf (cT (c2 (gEqB false) (cVar 4) (cVar 2)))
    (sAsg (cRo (cComp (cIt (cVar 5)) (gN 6) (cTru (c1 gAll (cCons (cRo (cComp (cIt (c2 gIx (cVar 6) (cP (.int 1)))) (gN 7) cYes (c2 (gInB false) (cVar 7) (cVar 1)) [7])) cNil))) (cVar 6) [6])) (gN 3))
    sNil))
  (sRet (cVar 3))))
/-! ### what is alive -/
inductive Alive (b : List Kd) : Str → Prop
  | base : Alive b num
  | made {k : Kd} {m : Mk} : k ∈ b → m ∈ k.2 → (∀ f ∈ m.2, Alive b f) → Alive b k.1
def gd (ks : List Str) (m : Mk) : Bool := m.2.all fun z => decide (z ∈ ks)
theorem gd_iff {ks : List Str} {m : Mk} : gd ks m = true ↔ ∀ f ∈ m.2, f ∈ ks := by simp [gd]
def Closed (b : List Kd) (ks : List Str) : Prop := num ∈ ks ∧ ∀ k ∈ b, ∀ m ∈ k.2, gd ks m = true → k.1 ∈ ks
theorem closed_alive {b : List Kd} {ks : List Str} (h : Closed b ks) {z : Str} (a : Alive b z) : z ∈ ks := by
  induction a with
  | base => exact h.1
  | made hk hm _ ih => exact h.2 _ hk _ hm (gd_iff.mpr ih)
open Classical in
noncomputable def al (b : List Kd) (z : Str) : Bool := decide (Alive b z)
theorem al_mem {b : List Kd} {ks : List Str} (h : ∀ z, z ∈ ks ↔ Alive b z) (z : Str) : decide (z ∈ ks) = al b z := by
  unfold al
  by_cases q : z ∈ ks
  · have := (h z).mp q; simp [q, this]
  · have : ¬ Alive b z := fun a => q ((h z).mpr a)
    simp [q, this]
theorem iter_fields (ρ : Ev) (S : Sto) (i : Nat) (fs : List Str) (h : ρ[i]? = some (some (.p (.tup (fs.map .str))))) : cIt (cVar i) ρ S = .ok (fs.map .str, none) S := by
  simp [cVar, h]
def fk (b : List Kd) (ks : List Str) : List Str := (b.filter fun k => !decide (k.1 ∈ ks) && k.2.any (gd ks)).map (·.1)
theorem fk_mem {b : List Kd} {ks : List Str} {z : Str} : z ∈ fk b ks ↔ ∃ k ∈ b, k.1 = z ∧ z ∉ ks ∧ k.2.any (gd ks) = true := by
  unfold fk
  simp only [List.mem_map, List.mem_filter, Bool.and_eq_true, Bool.not_eq_true', decide_eq_false_iff_not]
  constructor
  · rintro ⟨k, ⟨hk, h1, h2⟩, rfl⟩; exact ⟨k, hk, rfl, h1, h2⟩
  · rintro ⟨k, hk, rfl, h1, h2⟩; exact ⟨k, ⟨hk, h1, h2⟩, rfl⟩
theorem fk_nd {b : List Kd} {ks : List Str} (h : (b.map (·.1)).Nodup) : (fk b ks).Nodup := (List.filter_sublist.map _).nodup h
theorem names_mem {b : List Kd} {k : Kd} (h : k ∈ b) : k.1 ∈ b.map (·.1) := List.mem_map_of_mem h
theorem fk_alive {b : List Kd} {ks : List Str} (h : ∀ z ∈ ks, Alive b z) : ∀ z ∈ fk b ks, Alive b z := fun z hz => by
  obtain ⟨k, hk, rfl, _, h2⟩ := fk_mem.mp hz
  obtain ⟨m, hm, g⟩ := List.any_eq_true.mp h2
  exact .made hk hm fun f hf => h f (gd_iff.mp g f hf)
theorem fk_closed {b : List Kd} {ks : List Str} (h0 : num ∈ ks) (h : fk b ks = []) : Closed b ks := by
  refine ⟨h0, fun k hk m hm g => Classical.byContradiction fun q => ?_⟩
  have : k.1 ∈ fk b ks := fk_mem.mpr ⟨k, hk, rfl, q, List.any_eq_true.mpr ⟨m, hm, g⟩⟩
  rw [h] at this
  cases this
def mkOf (b : List Kd) (z : Str) : List Mk := match b.find? fun k => decide (k.1 = z) with
  | some k => k.2
  | none => []
theorem mkOf_ok {b : List Kd} (hb : BookOk b) (z : Str) : (mkOf b z).length ≤ 6 ∧ ∀ m ∈ mkOf b z, m.2.length ≤ 4 := by
  unfold mkOf
  split
  · rename_i k h
    have := List.mem_of_find?_eq_some h
    exact ⟨hb.mks k this, hb.fl k this⟩
  · simp
/-- the makes that come, by what is known -/
theorem come_E {ms : List Mk} {S : Sto} {y : D} {mem : Str → Bool} {i j k : Nat} {ρ : Ev} {xs0 : List P} (hl : ms.length ≤ 1000) (h4 : ∀ m ∈ ms, m.2.length ≤ 4) (hin : ∀ z, gInB false (.p (.str z)) y S = .ok (.p (.bl (mem z))) S)
    (hi : i < ρ.length) (hj : j < ρ.length) (hij : i ≠ j) (hki : k ≠ i) (hkj : k ≠ j) (hy : ρ[k]? = some (some y)) :
    compL (gN i) (cTru (c1 gAll (cCons (cRo (cComp (cIt (c2 gIx (cVar i) (cP (.int 1)))) (gN j) cYes (c2 (gInB false) (cVar j) (cVar k)) [j])) cNil))) (cVar i) none xs0 (ms.map encM) [] ρ S = .ok ((ms.filter fun m => m.2.all mem).map encM) S := by
  have h := compL_filter (g := gN i) (t := cTru (c1 gAll (cCons (cRo (cComp (cIt (c2 gIx (cVar i) (cP (.int 1)))) (gN j) cYes (c2 (gInB false) (cVar j) (cVar k)) [j])) cNil))) (e := cVar i) (xs0 := xs0) (ρ := ρ) (S := S)
    (fun x => match x with | .tup [_, .tup fs] => fs.all (fun f => match f with | .str z => mem z | _ => false) | _ => false) id (ms.map encM) [] (by rw [List.length_map, List.length_nil]; omega) (by
      intro x hx
      obtain ⟨m, hm, rfl⟩ := List.mem_map.mp hx
      have hi2 : (ρ.set i (some (.p (encM m))))[i]? = some (some (.p (encM m))) := List.getElem?_set_self hi
      have hall := all_in (it := cIt (c2 gIx (cVar i) (cP (.int 1)))) (j := j) (k := k) (ρ := ρ.set i (some (.p (encM m)))) (S := S) (y := y) (fs := m.2) mem (by
          have : gIx (.p (encM m)) (.p (.int 1)) S = .ok (.p (.tup (m.2.map .str))) S := vIxT S (by omega) rfl
          simp [cVar, hi2, this]) (by rw [List.length_set]; exact hj) hkj (by rw [List.getElem?_set_ne (Ne.symm hki)]; exact hy) (by have := h4 m hm; omega) (fun z _ => hin z)
      refine ⟨_, rfl, ?_, fun _ => by simp [cVar, hi2]⟩
      rw [xTru, hall, bind_okE]
      simp only [truD, encM, List.all_map]
      rfl)
  rw [h, List.nil_append, List.map_id]
  congr 1
  rw [List.filter_map]
  congr 1
  refine List.filter_congr fun m _ => ?_
  simp only [Function.comp, encM, List.all_map]
  rfl
theorem mkOf_snoc {pre : List Kd} {k : Kd} {z : Str} (h : ∀ y ∈ pre, y.1 ≠ k.1) : mkOf (pre ++ [k]) z = if k.1 = z then k.2 else mkOf pre z := by
  unfold mkOf
  rw [List.find?_append]
  by_cases e : k.1 = z
  · rw [List.find?_eq_none.mpr fun y hy => by have := h y hy; rw [e] at this; simp [this]]
    simp [e]
  · simp only [e, if_false]
    cases h2 : pre.find? fun k => decide (k.1 = z) with
    | some _ => rfl
    | none => simp [e]
theorem dep_encM (m : Mk) : (encM m).dep ≤ 2 := by
  have : P.deps (m.2.map .str) ≤ 0 := deps_le fun x hx => by
    obtain ⟨z, _, rfl⟩ := List.mem_map.mp hx
    simp [P.dep]
  simp only [encM, P.dep, P.deps]
  omega
theorem deps_makes (ms : List Mk) : P.deps (ms.map encM) ≤ 2 := deps_le fun x hx => by
  obtain ⟨m, _, rfl⟩ := List.mem_map.mp hx
  exact dep_encM m

/-! ### _law_come -/
theorem body_come (run : Run) {S : Sto} (b : List Kd) (hb : BookOk b) (y : D) (mem : Str → Bool) (hin : ∀ z S, gInB false (.p (.str z)) y S = .ok (.p (.bl (mem z))) S) (z : Str) :
    Nd (b_law_come iD run [some (.p (encB b)), some y, some (.p (.str z)), none, none, none, none, none] S) fun f S' => f = .rt (.p (.ro (((mkOf b z).filter fun m => m.2.all mem).map encM))) ∧ S' = S := by
  simp only [b_law_come, encB, xSeq, xAsg, xRo, xLst, xNil, bind_okE, allP, List.length_nil, sizeLine_val, Nat.zero_le, if_true, xgN, List.set_cons_zero, List.set_cons_succ, xFor, xIt, xVar0, xIter_tup]
  refine forE0 (fun pre ρ S' => S' = S ∧ ∃ v4 v5 v6 v7, ρ = [some (.p (.tup (b.map encK))), some y, some (.p (.str z)), some (.p (.ro (((mkOf pre z).filter fun m => m.2.all mem).map encM))), v4, v5, v6, v7]) ⟨rfl, _, _, _, _, rfl⟩ ?_ ?_
  · rintro pre k post ρ S' hbk ⟨rfl, v4, v5, v6, v7, rfl⟩
    have hkb : k ∈ b := by rw [hbk]; simp
    refine Nd.go ?_
    have hdis : ∀ y ∈ pre, y.1 ≠ k.1 := fun y hy => by
      have nd := hb.nd
      rw [hbk, List.map_append, List.nodup_append] at nd
      exact nd.2.2 y.1 (List.mem_map_of_mem hy) k.1 (by simp)
    unfold turnF
    simp only [encK, xgTp, List.length_cons, List.length_nil, Nat.reduceAdd, if_true, xgsCons, xgsNil, xgN, bind_okE, List.set_cons_zero, List.set_cons_succ, xSIf, xT, x2, xVar0, xVarS, vEqS, xbT]
    by_cases h : k.1 = z
    · have hc := come_E (ms := k.2) (S := S') (y := y) (mem := mem) (i := 6) (j := 7) (k := 1) (ρ := [some (.p (.tup (b.map encK))), some y, some (.p (.str z)), some (.p (.ro (((mkOf pre z).filter fun m => m.2.all mem).map encM))), some (.p (.str k.1)), some (.p (.tup (k.2.map encM))), none, v7]) (xs0 := k.2.map encM) (by have := hb.mks k hkb; omega) (hb.fl k hkb)
        (fun z => hin z S') (by simp) (by simp) (by omega) (by omega) (by omega) rfl
      simp only [h] at hc
      simp only [h, decide_true, if_true, xAsg, xRo, xComp, xIt, xVar0, xVarS, bind_okE, xIter_tup, wipeE, List.set_cons_zero, List.set_cons_succ, hc, xgN]
      rw [mkOf_snoc hdis, if_pos h]
      exact .ok ⟨_, rfl, rfl, _, _, _, _, rfl⟩
    · simp only [h, decide_false, Bool.false_eq_true, if_false, xSNil]
      rw [mkOf_snoc hdis, if_neg h]
      exact .ok ⟨_, rfl, rfl, _, _, _, _, rfl⟩
  · rintro ρ S' ⟨rfl, v4, v5, v6, v7, rfl⟩
    simp only [xRet, xVar0, xVarS, bind_okE]
    exact .ok ⟨rfl, rfl⟩
/-! ### _law_made -/
def valOf (kvs : List (Key × P)) (m : Mk) : P := .tup (.str m.1 :: m.2.map fun f => (lookK kvs (.inr f)).getD .non)
def madeOf (kvs : List (Key × P)) (ks : List Str) (ms : List Mk) : P := match ms.find? (gd ks) with
  | some m => valOf kvs m
  | none => .non
theorem made_isN {kvs : List (Key × P)} {ks : List Str} {ms : List Mk} : isN (.p (madeOf kvs ks ms)) = !(ms.any (gd ks)) := by
  unfold madeOf
  cases h : ms.find? (gd ks) with
  | some m =>
    have : ms.any (gd ks) = true := List.any_eq_true.mpr ⟨m, List.mem_of_find?_eq_some h, List.find?_some h⟩
    rw [this]; rfl
  | none =>
    have : ms.any (gd ks) = false := List.any_eq_false.mpr fun m hm => by have := List.find?_eq_none.mp h m hm; simpa using this
    rw [this]; rfl
theorem body_made (run : Run) {S : Sto} {y : D} {kvs : List (Key × P)} {ks : List Str} (hd : dicL y S = some kvs) (hk : KeyIs kvs ks) (ms : List Mk) (h4 : ∀ m ∈ ms, m.2.length ≤ 4) :
    Nd (b_law_made iD run [some (.p (.tup (ms.map encM))), some y, none, none, none] S) fun f S' => f = .rt (.p (madeOf kvs ks ms)) ∧ S' = S := by
  simp only [b_law_made, xSeq, xFor, xIt, xVar0, bind_okE, xIter_tup]
  refine forE0 (fun pre ρ S' => S' = S ∧ (∀ m ∈ pre, gd ks m = false) ∧ ∃ v2 v3 v4, ρ = [some (.p (.tup (ms.map encM))), some y, v2, v3, v4]) ⟨rfl, by simp, _, _, _, rfl⟩ ?_ ?_
  · rintro pre m post ρ S' hms ⟨rfl, hpre, v2, v3, v4, rfl⟩
    have hm : m ∈ ms := by rw [hms]; simp
    have hm4 := h4 m hm
    unfold turnF
    have hall := all_in (it := cIt (cVar 3)) (j := 4) (k := 1) (ρ := [some (.p (.tup (ms.map encM))), some y, some (.p (.str m.1)), some (.p (.tup (m.2.map .str))), v4]) (S := S') (y := y) (fs := m.2) (fun z => decide (z ∈ ks)) (iter_fields _ _ _ _ rfl) (by simp) (by omega) rfl (by omega) (fun z hz => vInKeys false S' hd hk)
    simp only [encM, xgTp, List.length_cons, List.length_nil, Nat.reduceAdd, if_true, xgsCons, xgsNil, xgN, bind_okE, List.set_cons_zero, List.set_cons_succ, xSIf, xTru, hall, truD]
    cases hg : gd ks m with
    | false =>
      unfold gd at hg
      simp only [hg, Bool.false_eq_true, if_false, xSNil]
      refine .ok (.inl ⟨_, rfl, rfl, ?_, _, _, _, rfl⟩)
      intro y hy
      rcases List.mem_append.mp hy with q | q
      · exact hpre y q
      · rw [List.mem_singleton] at q
        subst q; exact hg
    | true =>
      have hg0 := hg
      have hin := gd_iff.mp hg
      unfold gd at hg
      have hc : ∀ ρ : Ev, ρ[1]? = some (some y) → 4 < ρ.length → compL (gN 4) cYes (c2 gIx (cVar 1) (cVar 4)) none (m.2.map P.str) (m.2.map P.str) [] ρ S' = .ok ((m.2.map P.str).map fun x => match x with | .str z => (lookK kvs (.inr z)).getD .non | x => x) S' := by
        intro ρ h1 hl
        rw [compL_map (fun x => match x with | .str z => (lookK kvs (.inr z)).getD .non | x => x) (m.2.map P.str) [] (by rw [List.length_map, List.length_nil]; omega)]
        · rfl
        · intro x hx
          obtain ⟨z, hz, rfl⟩ := List.mem_map.mp hx
          have h3 : (lookK kvs (.inr z)).isSome = true := by rw [lookK_is hk]; exact decide_eq_true (hin z hz)
          obtain ⟨v, hv⟩ := Option.isSome_iff_exists.mp h3
          have e1 : cVar 4 (ρ.set 4 (some (.p (.str z)))) S' = .ok (.p (.str z)) S' := by simp [cVar, List.getElem?_set, hl]
          have e2 : cVar 1 (ρ.set 4 (some (.p (.str z)))) S' = .ok y S' := by simp [cVar, h1]
          rw [xgN, bind_okE, x2, e2, bind_okE, e1, bind_okE, vIxDic S' hd hv]
          show _ = R.ok (Cw.D.p ((lookK kvs (.inr z)).getD .non)) S'
          rw [hv]
          rfl
      have hc2 := hc [some (.p (.tup (ms.map encM))), some y, some (.p (.str m.1)), some (.p (.tup (m.2.map .str))), none] rfl (by simp)
      rw [List.map_map] at hc2
      simp only [hg, if_true, xRet, x2, xTup, xCons, xNil, x1, xRo, xComp, xIt, xVar0, xVarS, bind_okE, xIter_tup, wipeE, List.set_cons_zero, List.set_cons_succ, hc2, vTupRo, allP, Option.map_some, List.length_cons, List.length_nil, sizeLine_val, Nat.reduceAdd, Nat.reduceLeDiff]
      simp only [gAdd, List.length_cons, List.length_nil, List.length_map, sizeLine_val]
      rw [if_pos (by omega)]
      refine .ok (.inr ⟨_, rfl, .ok ⟨?_, rfl⟩⟩)
      have : ms.find? (gd ks) = some m := by
        rw [hms, List.find?_append, List.find?_eq_none.mpr fun y hy => by rw [hpre y hy]; simp]
        simp [hg0]
      unfold madeOf
      rw [this]
      rfl
  · rintro ρ S' ⟨rfl, hpre, v2, v3, v4, rfl⟩
    simp only [xRet, xP, bind_okE]
    refine .ok ⟨?_, rfl⟩
    have : ms.find? (gd ks) = none := List.find?_eq_none.mpr fun m hm => by rw [hpre m hm]; simp
    unfold madeOf
    rw [this]
end Gn
set_option Elab.async false
set_option linter.all false
set_option maxRecDepth 100000
set_option maxHeartbeats 4000000
/-! Gn6: _law_plains. -/
namespace Gn
open Cw L2
open PySem hiding Run
variable {iD : Nat}

theorem look_put {kvs : List (Key × P)} {ks : List Str} (h : KeyIs kvs ks) {z f : Str} (hz : z ∉ ks) (v : P) : lookK (putP kvs (.inr z) v) (.inr f) = if f = z then some v else lookK kvs (.inr f) := by
  have hn : ¬ kvs.any (fun kv => decide (kv.1 = (.inr z : Key))) = true := by
    intro q
    obtain ⟨kv, hkv, e⟩ := List.any_eq_true.mp q
    have e := of_decide_eq_true e
    have : kv.1 ∈ kvs.map (·.1) := List.mem_map_of_mem hkv
    rw [h, e] at this
    obtain ⟨w, hw, e2⟩ := List.mem_map.mp this
    cases e2
    exact hz hw
  unfold putP
  rw [if_neg hn]
  unfold lookK
  rw [List.find?_append]
  by_cases e : f = z
  · subst e
    have : kvs.find? (fun kv => decide (kv.1 = (.inr f : Key))) = none := List.find?_eq_none.mpr fun kv hkv q => hn (List.any_eq_true.mpr ⟨kv, hkv, q⟩)
    rw [this, if_pos rfl]
    simp
  · rw [if_neg e]
    cases hq : kvs.find? (fun kv => decide (kv.1 = (.inr f : Key))) with
    | some w => rfl
    | none =>
      have e2 : z ≠ f := fun q => e q.symm
      simp [e2]
theorem look_mem {kvs : List (Key × P)} {ks : List Str} (h : KeyIs kvs ks) {z : Str} (hz : z ∈ ks) : ∃ v, lookK kvs (.inr z) = some v := by
  have := lookK_is (z := z) h
  rw [decide_eq_true hz] at this
  exact Option.isSome_iff_exists.mp this
theorem look_in {kvs : List (Key × P)} {ks : List Str} (h : KeyIs kvs ks) {z : Str} {v : P} (hv : lookK kvs (.inr z) = some v) : z ∈ ks := by
  have := lookK_is (z := z) h
  rw [hv] at this
  exact of_decide_eq_true this.symm
/-- plain values, as far as they are known -/
structure PD (b : List Kd) (kvs : List (Key × P)) (ks : List Str) (n : Nat) : Prop where
  keys : KeyIs kvs ks
  nd : ks.Nodup
  nu : Gn.num ∈ ks
  sub : ∀ z ∈ ks, Alive b z ∧ z ∈ Gn.num :: b.map (·.1)
  zero : lookK kvs (.inr Gn.num) = some (.int 0)
  val : ∀ k ∈ b, k.1 ∈ ks → ∃ m ∈ k.2, gd ks m = true ∧ lookK kvs (.inr k.1) = some (valOf kvs m)
  dep : ∀ z v, lookK kvs (.inr z) = some v → v.dep ≤ n
theorem valOf_same {kvs kvs2 : List (Key × P)} {m : Mk} (h : ∀ f ∈ m.2, lookK kvs2 (.inr f) = lookK kvs (.inr f)) : valOf kvs2 m = valOf kvs m := by
  unfold valOf
  congr 2
  exact List.map_congr_left fun f hf => by rw [h f hf]
theorem valOf_dep {kvs : List (Key × P)} {ks : List Str} {m : Mk} {n : Nat} (hk : KeyIs kvs ks) (hg : gd ks m = true) (hd : ∀ z v, lookK kvs (.inr z) = some v → v.dep ≤ n) : (valOf kvs m).dep ≤ n + 1 := by
  have : P.deps (P.str m.1 :: m.2.map fun f => (lookK kvs (.inr f)).getD .non) ≤ n := deps_le fun x hx => by
    rcases List.mem_cons.mp hx with rfl | hx
    · simp [P.dep]
    · obtain ⟨f, hf, rfl⟩ := List.mem_map.mp hx
      obtain ⟨v, hv⟩ := look_mem hk (gd_iff.mp hg f hf)
      rw [hv]
      exact hd f v hv
  unfold valOf
  simp only [P.dep]
  omega
theorem kind_one {b : List Kd} (hb : BookOk b) {k k2 : Kd} (h : k ∈ b) (h2 : k2 ∈ b) (e : k.1 = k2.1) : k = k2 := by
  have nd := hb.nd
  obtain ⟨i, hi, rfl⟩ := List.mem_iff_getElem.mp h
  obtain ⟨j, hj, rfl⟩ := List.mem_iff_getElem.mp h2
  have hm : (b.map (·.1))[i]'(by rw [List.length_map]; exact hi) = (b.map (·.1))[j]'(by rw [List.length_map]; exact hj) := by rw [List.getElem_map, List.getElem_map]; exact e
  have := (List.getElem_inj nd).mp hm
  subst this
  rfl
/-- a round, and what it adds -/
theorem PD.round {b : List Kd} (hb : BookOk b) {ah kvs : List (Key × P)} {ks : List Str} {n : Nat} (p : PD b ah ks n) (hk : KeyIs kvs (ks ++ fk b ks)) (h0 : ∀ f ∈ ks, lookK kvs (.inr f) = lookK ah (.inr f))
    (h1 : ∀ k ∈ b, k.1 ∈ fk b ks → lookK kvs (.inr k.1) = some (madeOf ah ks k.2)) : PD b kvs (ks ++ fk b ks) (n + 1) := by
  have hdis : ∀ z ∈ fk b ks, z ∉ ks := fun z hz => by obtain ⟨k, _, rfl, h, _⟩ := fk_mem.mp hz; exact h
  have gdm : ∀ m, gd ks m = true → gd (ks ++ fk b ks) m = true := fun m h => gd_iff.mpr fun f hf => List.mem_append_left _ (gd_iff.mp h f hf)
  have vs : ∀ m, gd ks m = true → valOf kvs m = valOf ah m := fun m h => valOf_same fun f hf => h0 f (gd_iff.mp h f hf)
  have made : ∀ k ∈ b, k.1 ∈ fk b ks → ∃ m ∈ k.2, gd ks m = true ∧ madeOf ah ks k.2 = valOf ah m := fun k hk hf => by
    obtain ⟨k2, hk2, e, _, hany⟩ := fk_mem.mp hf
    have := kind_one hb hk2 hk e
    subst this
    unfold madeOf
    cases hq : k2.2.find? (gd ks) with
    | some m => exact ⟨m, List.mem_of_find?_eq_some hq, List.find?_some hq, rfl⟩
    | none =>
      obtain ⟨m, hm, g⟩ := List.any_eq_true.mp hany
      exact absurd g (List.find?_eq_none.mp hq m hm)
  refine ⟨hk, ?_, List.mem_append_left _ p.nu, fun z hz => ?_, by rw [h0 _ p.nu]; exact p.zero, fun k hkb hz => ?_, fun z v hv => ?_⟩
  · exact List.nodup_append.mpr ⟨p.nd, fk_nd hb.nd, fun a ha b hb e => hdis b hb (e ▸ ha)⟩
  · rcases List.mem_append.mp hz with q | q
    · exact p.sub z q
    · refine ⟨fk_alive (fun z hz => (p.sub z hz).1) z q, ?_⟩
      obtain ⟨k, hk, rfl, _⟩ := fk_mem.mp q
      exact List.mem_cons_of_mem _ (names_mem hk)
  · rcases List.mem_append.mp hz with q | q
    · obtain ⟨m, hm, g, e⟩ := p.val k hkb q
      exact ⟨m, hm, gdm m g, by rw [h0 _ q, e, vs m g]⟩
    · obtain ⟨m, hm, g, e⟩ := made k hkb q
      exact ⟨m, hm, gdm m g, by rw [h1 k hkb q, e, vs m g]⟩
  · rcases List.mem_append.mp (look_in hk hv) with q | q
    · rw [h0 z q] at hv
      exact Nat.le_succ_of_le (p.dep z v hv)
    · obtain ⟨k, hkb, rfl, _⟩ := fk_mem.mp q
      rw [h1 k hkb q] at hv
      cases hv
      obtain ⟨m, hm, g, e⟩ := made k hkb q
      rw [e]
      exact valOf_dep p.keys g p.dep
def MadeOk (run : Run) (i : Nat) : Prop := ∀ (S : Sto) (kvs : List (Key × P)) (ks : List Str) (ms : List Mk), KeyIs kvs ks → (∀ m ∈ ms, m.2.length ≤ 4) → run i [.p (.tup (ms.map encM)), .p (.dic kvs)] S = .ok (.p (madeOf kvs ks ms)) S
theorem body_plains (run : Run) (hm : MadeOk run iD) {S : Sto} (b : List Kd) (hb : BookOk b) :
    Nd (b_law_plains iD run [some (.p (encB b)), none, none, none, none, none, none] S) fun f S' => ∃ kvs ks, f = .rt (.ref S.length) ∧ S' = S ++ [.dic kvs] ∧ PD b kvs ks b.length ∧ ∀ z, z ∈ ks ↔ Alive b z := by
  have h6 := hb.len
  have hbl : (b.map encK).length = b.length := List.length_map _
  have hu : ∀ kvs : List (Key × P), (S ++ [Ob.dic kvs])[S.length]? = some (.dic kvs) := fun kvs => get_new
  have hd : cDt (cDisp [((cP (.str ("num" : Str))), (cP (.int 0)))]) [some (.p (.tup (b.map encK))), none, none, none, none, none, none] S = .ok (.ref S.length) (S ++ [.dic [(.inr ("num" : Str), P.int 0)]]) := by
    simp [cDisp, cPairs, keyP, mergeP, putP]
  have pd0 : PD b [(.inr ("num" : Str), P.int 0)] [num] 0 := by
    have hz : ∀ z v, lookK [((.inr ("num" : Str) : Key), P.int 0)] (.inr z) = some v → z = num ∧ v = .int 0 := fun z v hv => by
      have kz : KeyIs [((.inr ("num" : Str) : Key), P.int 0)] [num] := rfl
      have h1 : z ∈ [num] := look_in kz hv
      rw [List.mem_singleton] at h1
      subst h1
      have h0 : lookK [((.inr ("num" : Str) : Key), P.int 0)] (.inr num) = some (.int 0) := by simp [lookK, num]
      rw [h0] at hv
      cases hv
      exact ⟨rfl, rfl⟩
    refine ⟨rfl, by simp, by simp, fun z hz => ?_, by simp [lookK, num], fun k hk hz => ?_, fun z v hv => ?_⟩
    · rw [List.mem_singleton] at hz; subst hz; exact ⟨.base, List.mem_cons_self⟩
    · rw [List.mem_singleton] at hz; exact absurd hz (hb.nn k hk)
    · obtain ⟨_, rfl⟩ := hz z v hv; simp [P.dep]
  simp (disch := omega) only [b_law_plains, encB, xSeq, xAsg, hd, bind_okE, xgN, List.set_cons_zero, List.set_cons_succ, xFor, xRng1, x1, xCons, xNil, xVar0, xVarS, vLenTup, hbl, rngOk_nat, if_true, Int.toNat_natCast]
  refine rangeE0 (fun t ρ S' => ∃ (kvs : List (Key × P)) (ks : List Str) (v2 v3 v4 v5 v6 : Option D), ρ = [some (.p (.tup (b.map encK))), some (.ref S.length), v2, v3, v4, v5, v6] ∧ S' = S ++ [.dic kvs] ∧ PD b kvs ks t ∧ (Closed b ks ∨ t + 1 ≤ ks.length))
    ⟨_, _, none, none, none, none, none, rfl, rfl, pd0, .inr (by simp)⟩ ?_ ?_
  · rintro t ρ S' ht ⟨ah, ks, v2, v3, v4, v5, v6, rfl, rfl, pd, hc⟩
    refine Nd.go ?_
    unfold turnF
    have hcp : ∀ (a0 : Option D) (r : Ev), cDo (cDCopy (cVar 1)) (a0 :: some (.ref S.length) :: r) (S ++ [.dic ah]) = .ok (.p (.dic ah)) (S ++ [.dic ah]) := fun a0 r => by
      simp [cDCopy, cVar, dicL]
    simp only [xgN, bind_okE, List.set_cons_zero, List.set_cons_succ, xSeq, xAsg, hcp, xFor, xIt, xVar0, xIter_tup]
    refine forE1 (fun pre ρ S' => ∃ (kvs : List (Key × P)) (v4 v5 v6 : Option D), ρ = [some (.p (.tup (b.map encK))), some (.ref S.length), some (.p (.int t)), some (.p (.dic ah)), v4, v5, v6] ∧ S' = S ++ [.dic kvs] ∧
      KeyIs kvs (ks ++ fk pre ks) ∧ (∀ f ∈ ks, lookK kvs (.inr f) = lookK ah (.inr f)) ∧ ∀ k ∈ pre, k.1 ∈ fk pre ks → lookK kvs (.inr k.1) = some (madeOf ah ks k.2))
      ⟨ah, v4, v5, v6, rfl, rfl, by simpa [fk] using pd.keys, fun _ _ => rfl, by simp⟩ ?_ ?_
    · rintro pre k post ρ S' hbk ⟨kvs, v4, v5, v6, rfl, rfl, hk, hl0, hl1⟩
      have hkb : k ∈ b := by rw [hbk]; simp
      refine Nd.go ?_
      have e := hm (S ++ [.dic kvs]) ah ks k.2 pd.keys (hb.fl k hkb)
      have hin := fun S => vInKeys (y := .p (.dic ah)) (z := k.1) true S rfl pd.keys
      unfold turnF
      simp only [encK, xgTp, List.length_cons, List.length_nil, Nat.reduceAdd, if_true, xgsCons, xgsNil, xgN, bind_okE, List.set_cons_zero, List.set_cons_succ, xSeq, xAsg, xCallF, xCons, xNil, xVar0, xVarS, e, xfrz_p, xSIf, xAnd, xT, x2, xP, hin, xbT, vIsnt, made_isN, Bool.not_not]
      have hnew : k.1 ∉ fk pre ks := fun q => by
        obtain ⟨k2, hk2, e2, _⟩ := fk_mem.mp q
        have nd := hb.nd
        rw [hbk, List.map_append, List.nodup_append] at nd
        exact nd.2.2 k2.1 (List.mem_map_of_mem hk2) k.1 (by simp) e2
      by_cases h1 : k.1 ∈ ks
      · have hf : fk (pre ++ [k]) ks = fk pre ks := by unfold fk; rw [List.filter_append]; simp [h1]
        simp only [h1, decide_true, Bool.not_true, Bool.false_eq_true, if_false, bind_okE, xSNil]
        refine .ok ⟨_, rfl, kvs, _, _, _, rfl, rfl, by rw [hf]; exact hk, hl0, fun k2 hk2 h2 => ?_⟩
        rw [hf] at h2
        rcases List.mem_append.mp hk2 with q | q
        · exact hl1 k2 q h2
        · rw [List.mem_singleton] at q; subst q; exact absurd h2 hnew
      · cases h2 : k.2.any (gd ks) with
        | false =>
          have hf : fk (pre ++ [k]) ks = fk pre ks := by unfold fk; rw [List.filter_append]; simp [h1, h2]
          simp only [h1, decide_false, Bool.not_false, if_true, bind_okE, Bool.false_eq_true, if_false, xSNil]
          refine .ok ⟨_, rfl, kvs, _, _, _, rfl, rfl, by rw [hf]; exact hk, hl0, fun k2 hk2 h3 => ?_⟩
          rw [hf] at h3
          rcases List.mem_append.mp hk2 with q | q
          · exact hl1 k2 q h3
          · rw [List.mem_singleton] at q; subst q; exact absurd h3 hnew
        | true =>
          have hf : fk (pre ++ [k]) ks = fk pre ks ++ [k.1] := by unfold fk; rw [List.filter_append]; simp [h1, h2]
          have hni : k.1 ∉ ks ++ fk pre ks := by rw [List.mem_append, not_or]; exact ⟨h1, hnew⟩
          have hlen := nodup_sub_len ks _ pd.nd fun z hz => (pd.sub z hz).2
          rw [List.length_cons, List.length_map] at hlen
          have hset := vSetD (z := k.1) (y := madeOf ah ks k.2) (hu kvs) (by
            rw [hk.len, List.length_append]
            unfold fk
            rw [List.length_map]
            have := List.length_filter_le (fun k : Kd => !decide (k.1 ∈ ks) && k.2.any (gd ks)) pre
            have h6 := hb.len
            rw [hbk, List.length_append] at h6
            omega)
          simp only [h1, decide_false, Bool.not_false, if_true, bind_okE, xAsg, xVar0, xVarS, xgAt, hset]
          refine .ok ⟨_, rfl, putP kvs (.inr k.1) (madeOf ah ks k.2), _, _, _, rfl, by simp, ?_, fun f hf2 => ?_, fun k2 hk2 h3 => ?_⟩
          · rw [hf, ← List.append_assoc]
            exact hk.put hni _
          · rw [look_put hk hni, if_neg (fun e : f = k.1 => h1 (by rw [← e]; exact hf2))]
            exact hl0 f hf2
          · rw [hf] at h3
            rw [look_put hk hni]
            rcases List.mem_append.mp hk2 with q | q
            · have ne : k2.1 ≠ k.1 := by
                have nd := hb.nd
                rw [hbk, List.map_append, List.nodup_append] at nd
                exact nd.2.2 k2.1 (List.mem_map_of_mem q) k.1 (by simp)
              rw [if_neg ne]
              rcases List.mem_append.mp h3 with z | z
              · exact hl1 k2 q z
              · rw [List.mem_singleton] at z; exact absurd z ne
            · rw [List.mem_singleton] at q
              subst q
              rw [if_pos rfl]
    · rintro ρ S' ⟨kvs, v4, v5, v6, rfl, rfl, hk, hl0, hl1⟩
      have pd2 := pd.round hb hk hl0 hl1
      refine ⟨_, rfl, kvs, _, _, _, _, _, _, rfl, rfl, pd2, ?_⟩
      rcases hc with q | q
      · left
        refine ⟨pd2.nu, fun k hk m hm g => List.mem_append_left _ (closed_alive q ?_)⟩
        exact .made hk hm fun f hf => (pd2.sub f (gd_iff.mp g f hf)).1
      · by_cases hz : fk b ks = []
        · left
          rw [hz, List.append_nil]
          exact fk_closed pd.nu hz
        · right
          have := List.length_pos_iff.mpr hz
          rw [List.length_append]; omega
  · rintro ρ S' ⟨kvs, ks, v2, v3, v4, v5, v6, rfl, rfl, pd, hc⟩
    simp only [xRet, xVar0, xVarS, bind_okE]
    refine .ok ⟨kvs, ks, rfl, rfl, pd, fun z => ⟨fun q => (pd.sub z q).1, ?_⟩⟩
    rcases hc with q | q
    · exact closed_alive q
    · intro a
      have full : ∀ y ∈ num :: b.map (·.1), y ∈ ks := fun y hy => nodup_full pd.nd (fun x hx => (pd.sub x hx).2) (by rw [List.length_cons, List.length_map]; omega) hy
      exact closed_alive ⟨pd.nu, fun k hk m hm g => full _ (List.mem_cons_of_mem _ (names_mem hk))⟩ a
end Gn
set_option Elab.async false
set_option linter.all false
set_option maxRecDepth 100000
set_option maxHeartbeats 4000000
/-! Gn7: the program's own readers of a book: first_made, next_round, plain_values, has_values, all_makes, makes_of (iF iR iP iL: where the first three and all_makes stand). -/
namespace Gn
open Cw L2
open PySem hiding Run
/-- first_made(makes, known): makes=0 known=1 make=2 fields=3 field=4 -/
def b_first_made (iF iR iP iL : Nat) (run : Run) : CS :=
  (sSeq (sFor (cIt (cVar 0)) (gTp 2 (gsCons (gN 2) (gsCons (gN 3) gsNil)))
    (sIf (cTru (c1 gAll (cCons (cRo (cComp (cIt (cVar 3)) (gN 4) cYes (c2 (gInB false) (cVar 4) (cVar 1)) [4])) cNil)))
    (sRet (c2 gAdd (cTup (cCons (cVar 2) cNil)) (c1 gTuple (cCons (cRo (cComp (cIt (cVar 3)) (gN 4) cYes (c2 gIx (cVar 1) (cVar 4)) [4])) cNil))))
    sNil))
  (sRet (cP .non)))
/-- next_round(book, known): book=0 known=1 fresh=2 kind=3 makes=4 value=5 -/
def b_next_round (iF iR iP iL : Nat) (run : Run) : CS :=
  (sSeq (sAsg (cDt cDNew) (gN 2))
  (sSeq (sFor (cIt (cVar 0)) (gTp 2 (gsCons (gN 3) (gsCons (gN 4) gsNil)))
    (sSeq (sAsg (cCallF run iF (cCons (cVar 4) (cCons (cVar 1) cNil))) (gN 5))
  (sIf (cAnd (cT (c2 (gInB true) (cVar 3) (cVar 1))) (cT (c2 (gIs true) (cVar 5) (cP .non))))
    (sAsg (cVar 5) (gAt (cVar 2) (cVar 3)))
    sNil)))
  (sRet (cVar 2))))
/-- plain_values(book): book=0 known=1 fresh=2 -/
def b_plain_values (iF iR iP iL : Nat) (run : Run) : CS :=
  (sSeq (sAsg (cDt (cDisp [((cP (.str "num")), (cP (.int 0)))])) (gN 1))
  (sSeq (sAsg (cCallF run iR (cCons (cVar 0) (cCons (cVar 1) cNil))) (gN 2))
  (sSeq (sWhile (cT (c2 gGt (c1 gLen (cCons (cVar 2) cNil)) (cP (.int 0))))
    (sSeq (sDrop (cM "dict" gUpdate (cVar 1) (cCons (cVar 2) cNil)))
  (sAsg (cCallF run iR (cCons (cVar 0) (cCons (cVar 1) cNil))) (gN 2))))
  (sRet (cVar 1)))))
/-- has_values(book, kind): book=0 kind=1 -/
def b_has_values (iF iR iP iL : Nat) (run : Run) : CS :=
  (sRet (c2 (gInB false) (cVar 1) (cCallF run iP (cCons (cVar 0) cNil))))
/-- all_makes(book, kind): book=0 kind=1 name=2 makes=3 -/
def b_all_makes (iF iR iP iL : Nat) (run : Run) : CS :=
  (sSeq (sFor (cIt (cVar 0)) (gTp 2 (gsCons (gN 2) (gsCons (gN 3) gsNil)))
    (sIf (cT (c2 (gEqB false) (cVar 2) (cVar 1)))
    (sRet (cVar 3))
    sNil))
  (sRet (cTup cNil)))
/-- makes_of(book, kind): book=0 kind=1 known=2 make=3 field=4 -/
def b_makes_of (iF iR iP iL : Nat) (run : Run) : CS :=
  (sSeq (sAsg (cCallF run iP (cCons (cVar 0) cNil)) (gN 2))
  (sRet (c1 gTuple (cCons (cRo (cComp (cIt (cCallF run iL (cCons (cVar 0) (cCons (cVar 1) cNil)))) (gN 3) (cTru (c1 gAll (cCons (cRo (cComp (cIt (c2 gIx (cVar 3) (cP (.int 1)))) (gN 4) cYes (c2 (gInB false) (cVar 4) (cVar 2)) [4])) cNil))) (cVar 3) [3])) cNil))))
variable {iF iR iP iL : Nat}
theorem body_first (run : Run) {S : Sto} {n : Nat} {kvs : List (Key × P)} {ks : List Str} (hS : S[n]? = some (.dic kvs)) (hk : KeyIs kvs ks) (ms : List Mk) (h4 : ∀ m ∈ ms, m.2.length ≤ 4) :
    Nd (b_first_made iF iR iP iL run [some (.p (.tup (ms.map encM))), some (.ref n), none, none, none] S) fun f S' => ∃ x, f = .rt (.p x) ∧ S' = S ∧ isN (.p x) = !(ms.any (gd ks)) := by
  simp only [b_first_made, xSeq, xFor, xIt, xVar0, bind_okE, xIter_tup]
  refine forE0 (fun pre ρ S' => S' = S ∧ (∀ m ∈ pre, gd ks m = false) ∧ ∃ v2 v3 v4, ρ = [some (.p (.tup (ms.map encM))), some (.ref n), v2, v3, v4]) ⟨rfl, by simp, _, _, _, rfl⟩ ?_ ?_
  · rintro pre m post ρ S' hms ⟨rfl, hpre, v2, v3, v4, rfl⟩
    have hm : m ∈ ms := by rw [hms]; simp
    have hm4 := h4 m hm
    unfold turnF
    have hall := all_in (it := cIt (cVar 3)) (j := 4) (k := 1) (ρ := [some (.p (.tup (ms.map encM))), some (.ref n), some (.p (.str m.1)), some (.p (.tup (m.2.map .str))), v4]) (S := S') (y := .ref n) (fs := m.2) (fun z => decide (z ∈ ks)) (iter_fields _ _ _ _ rfl) (by simp) (by omega) rfl (by omega) (fun z hz => vInKeys false S' (dic_ref hS) hk)
    simp only [encM, xgTp, List.length_cons, List.length_nil, Nat.reduceAdd, if_true, xgsCons, xgsNil, xgN, bind_okE, List.set_cons_zero, List.set_cons_succ, xSIf, xTru, hall, truD]
    cases hg : gd ks m with
    | false =>
      unfold gd at hg
      simp only [hg, Bool.false_eq_true, if_false, xSNil]
      refine .ok (.inl ⟨_, rfl, rfl, ?_, _, _, _, rfl⟩)
      intro y hy
      rcases List.mem_append.mp hy with q | q
      · exact hpre y q
      · rw [List.mem_singleton] at q
        subst q; exact hg
    | true =>
      have hg0 := hg
      have hin := gd_iff.mp hg
      unfold gd at hg
      have hc : ∀ ρ : Ev, ρ[1]? = some (some (.ref n)) → 4 < ρ.length → compL (gN 4) cYes (c2 gIx (cVar 1) (cVar 4)) none (m.2.map P.str) (m.2.map P.str) [] ρ S' = .ok ((m.2.map P.str).map fun x => match x with | .str z => (lookK kvs (.inr z)).getD .non | x => x) S' := by
        intro ρ h1 hl
        rw [compL_map (fun x => match x with | .str z => (lookK kvs (.inr z)).getD .non | x => x) (m.2.map P.str) [] (by rw [List.length_map, List.length_nil]; omega)]
        · rfl
        · intro x hx
          obtain ⟨z, hz, rfl⟩ := List.mem_map.mp hx
          have h3 : (lookK kvs (.inr z)).isSome = true := by rw [lookK_is hk]; exact decide_eq_true (hin z hz)
          obtain ⟨v, hv⟩ := Option.isSome_iff_exists.mp h3
          have e1 : cVar 4 (ρ.set 4 (some (.p (.str z)))) S' = .ok (.p (.str z)) S' := by simp [cVar, List.getElem?_set, hl]
          have e2 : cVar 1 (ρ.set 4 (some (.p (.str z)))) S' = .ok (.ref n) S' := by simp [cVar, h1]
          rw [xgN, bind_okE, x2, e2, bind_okE, e1, bind_okE, vIxDic S' (dic_ref hS) hv]
          show _ = R.ok (Cw.D.p ((lookK kvs (.inr z)).getD .non)) S'
          rw [hv]
          rfl
      have hc2 := hc [some (.p (.tup (ms.map encM))), some (.ref n), some (.p (.str m.1)), some (.p (.tup (m.2.map .str))), none] rfl (by simp)
      simp only [hg, if_true, xRet, x2, xTup, xCons, xNil, x1, xRo, xComp, xIt, xVar0, xVarS, bind_okE, xIter_tup, wipeE, List.set_cons_zero, List.set_cons_succ, hc2, vTupRo, allP, Option.map_some, List.length_cons, List.length_nil, sizeLine_val, Nat.reduceAdd, Nat.reduceLeDiff]
      simp only [gAdd, List.length_cons, List.length_nil, List.length_map, sizeLine_val]
      rw [if_pos (by omega)]
      refine .ok (.inr ⟨_, rfl, .ok ⟨_, rfl, rfl, ?_⟩⟩)
      have : ms.any (gd ks) = true := List.any_eq_true.mpr ⟨m, hm, hg0⟩
      rw [this]
      rfl
  · rintro ρ S' ⟨rfl, hpre, v2, v3, v4, rfl⟩
    simp only [xRet, xP, bind_okE]
    refine .ok ⟨_, rfl, rfl, ?_⟩
    have : ms.any (gd ks) = false := List.any_eq_false.mpr fun m hm => by rw [hpre m hm]; simp
    rw [this]
    rfl
def FirstOk (run : Run) (i : Nat) : Prop := ∀ (S : Sto) (n : Nat) (kvs : List (Key × P)) (ks : List Str) (ms : List Mk), S[n]? = some (.dic kvs) → KeyIs kvs ks → (∀ m ∈ ms, m.2.length ≤ 4) →
  ∃ x, run i [.p (.tup (ms.map encM)), .ref n] S = .ok (.p x) S ∧ isN (.p x) = !(ms.any (gd ks))
theorem body_round (run : Run) (hf : FirstOk run iF) {S : Sto} {n : Nat} {kvs : List (Key × P)} {ks : List Str} (hS : S[n]? = some (.dic kvs)) (hk : KeyIs kvs ks) (b : List Kd) (hb : BookOk b) :
    Nd (b_next_round iF iR iP iL run [some (.p (encB b)), some (.ref n), none, none, none, none] S) fun f S' => ∃ fr, f = .rt (.ref S.length) ∧ S' = S ++ [.dic fr] ∧ KeyIs fr (fk b ks) := by
  simp only [b_next_round, encB, xSeq, xAsg, xDt, xDNew, bind_okE, xgN, List.set_cons_zero, List.set_cons_succ, xFor, xIt, xVar0, xIter_tup]
  refine forE0 (fun pre ρ S' => ∃ fr v3 v4 v5, S' = S ++ [.dic fr] ∧ KeyIs fr (fk pre ks) ∧ ρ = [some (.p (.tup (b.map encK))), some (.ref n), some (.ref S.length), v3, v4, v5]) ⟨[], _, _, _, rfl, rfl, rfl⟩ ?_ ?_
  · rintro pre k post ρ S' hbk ⟨fr, v3, v4, v5, rfl, hfr, rfl⟩
    have hkb : k ∈ b := by rw [hbk]; simp
    refine Nd.go ?_
    unfold turnF
    have hS2 : (S ++ [Ob.dic fr])[n]? = some (.dic kvs) := get_app hS
    obtain ⟨x, e, hx⟩ := hf (S ++ [.dic fr]) n kvs ks k.2 hS2 hk (hb.fl k hkb)
    simp only [encK, xgTp, List.length_cons, List.length_nil, Nat.reduceAdd, if_true, xgsCons, xgsNil, xgN, bind_okE, List.set_cons_zero, List.set_cons_succ, xSeq, xAsg, xCallF, xCons, xNil, xVar0, xVarS, e, xfrz_p, xSIf, xAnd, xT, x2, xP, vInKeys true _ (dic_ref hS2) hk, xbT, vIsnt, hx, Bool.not_not]
    by_cases h1 : k.1 ∈ ks
    · simp only [h1, decide_true, Bool.not_true, Bool.false_eq_true, if_false, bind_okE, xSNil]
      refine .ok ⟨_, rfl, fr, _, _, _, rfl, ?_, rfl⟩
      have : fk (pre ++ [k]) ks = fk pre ks := by unfold fk; rw [List.filter_append]; simp [h1]
      rw [this]; exact hfr
    · cases h2 : k.2.any (gd ks) with
      | false =>
        simp only [h1, decide_false, Bool.not_false, if_true, bind_okE, Bool.false_eq_true, if_false, xSNil]
        refine .ok ⟨_, rfl, fr, _, _, _, rfl, ?_, rfl⟩
        have : fk (pre ++ [k]) ks = fk pre ks := by unfold fk; rw [List.filter_append]; simp [h1, h2]
        rw [this]; exact hfr
      | true =>
        have hset := vSetD (z := k.1) (y := x) (get_new (S := S) (o := .dic fr)) (by
          rw [hfr.len]
          unfold fk
          rw [List.length_map]
          have := List.length_filter_le (fun k : Kd => !decide (k.1 ∈ ks) && k.2.any (gd ks)) pre
          have h6 := hb.len
          rw [hbk, List.length_append] at h6
          omega)
        simp only [h1, decide_false, Bool.not_false, if_true, bind_okE, xAsg, xVar0, xVarS, xgAt, hset]
        refine .ok ⟨_, rfl, putP fr (.inr k.1) x, _, _, _, by simp, ?_, rfl⟩
        have : fk (pre ++ [k]) ks = fk pre ks ++ [k.1] := by unfold fk; rw [List.filter_append]; simp [h1, h2]
        rw [this]
        refine hfr.put (fun q => ?_) x
        obtain ⟨k2, hk2, e2, _⟩ := fk_mem.mp q
        have nd := hb.nd
        rw [hbk, List.map_append, List.nodup_append] at nd
        exact nd.2.2 k2.1 (List.mem_map_of_mem hk2) k.1 (by simp) e2
  · rintro ρ S' ⟨fr, v3, v4, v5, rfl, hfr, rfl⟩
    simp only [xRet, xVar0, xVarS, bind_okE]
    exact .ok ⟨fr, rfl, rfl, hfr⟩
def RoundOk (run : Run) (i : Nat) : Prop := ∀ (S : Sto) (n : Nat) (kvs : List (Key × P)) (ks : List Str) (b : List Kd), S[n]? = some (.dic kvs) → KeyIs kvs ks → BookOk b →
  ∃ fr, run i [.p (encB b), .ref n] S = .ok (.ref S.length) (S ++ [.dic fr]) ∧ KeyIs fr (fk b ks)
theorem body_plain (run : Run) (hr : RoundOk run iR) {S : Sto} (b : List Kd) (hb : BookOk b) :
    Nd (b_plain_values iF iR iP iL run [some (.p (encB b)), none, none] S) fun f S' => ∃ kvs ks, f = .rt (.ref S.length) ∧ S' = S ++ [.dic kvs] ∧ KeyIs kvs ks ∧ ∀ z, z ∈ ks ↔ Alive b z := by
  have hu : ∀ kvs : List (Key × P), (S ++ [Ob.dic kvs])[S.length]? = some (.dic kvs) := fun kvs => get_new
  have hrun : ∀ kvs ks, KeyIs kvs ks → ∃ fr, ∃ (_ : run iR [.p (encB b), .ref S.length] (S ++ [.dic kvs]) = .ok (.ref (S ++ [Ob.dic kvs]).length) ((S ++ [.dic kvs]) ++ [.dic fr])), KeyIs fr (fk b ks) := fun kvs ks hk => by
    obtain ⟨fr, e, h⟩ := hr (S ++ [.dic kvs]) S.length kvs ks b (hu kvs) hk hb
    exact ⟨fr, e, h⟩
  let I : Nat → Ev → Sto → Prop := fun m ρ S' => ∃ kvs ks fr, ρ = [some (.p (encB b)), some (.ref S.length), some (.p (.dic fr))] ∧ S' = S ++ [.dic kvs] ∧ KeyIs kvs ks ∧ KeyIs fr (fk b ks) ∧ ks.Nodup ∧ (∀ z ∈ ks, Alive b z ∧ z ∈ num :: b.map (·.1)) ∧ num ∈ ks ∧ b.length + 1 - ks.length ≤ m
  have step : ∀ m ρ S', I m ρ S' → (∃ S1, (cT (c2 gGt (c1 gLen (cCons (cVar 2) cNil)) (cP (.int 0)))) ρ S' = .ok false S1 ∧ (∃ kvs ks v, ρ = [some (.p (encB b)), some (.ref S.length), v] ∧ S1 = S ++ [.dic kvs] ∧ KeyIs kvs ks ∧ ∀ z, z ∈ ks ↔ Alive b z)) ∨
      ∃ m' S1 ρ' S2, m = m' + 1 ∧ (cT (c2 gGt (c1 gLen (cCons (cVar 2) cNil)) (cP (.int 0)))) ρ S' = .ok true S1 ∧ (sSeq (sDrop (cM "dict" gUpdate (cVar 1) (cCons (cVar 2) cNil))) (sAsg (cCallF run iR (cCons (cVar 0) (cCons (cVar 1) cNil))) (gN 2))) ρ S1 = .ok (.nx ρ') S2 ∧ I m' ρ' S2 := by
    rintro m ρ S' ⟨kvs, ks, fr, rfl, rfl, hk, hf, nd, ha, h0, hm⟩
    by_cases h : fk b ks = []
    · left
      rw [h] at hf
      have hl : fr.length = 0 := hf.len
      refine ⟨S ++ [.dic kvs], ?_, kvs, ks, _, rfl, rfl, hk, fun z => ⟨fun q => (ha z q).1, closed_alive (fk_closed h0 h)⟩⟩
      simp [hl]
    · right
      have hl : fr.length = (fk b ks).length := hf.len
      have hp : 0 < (fk b ks).length := List.length_pos_iff.mpr h
      have nf := fk_nd (ks := ks) hb.nd
      have hsub : ∀ z ∈ fk b ks, z ∈ num :: b.map (·.1) := fun z hz => by
        obtain ⟨k, hk, rfl, _⟩ := fk_mem.mp hz
        exact List.mem_cons_of_mem _ (names_mem hk)
      have hdis : ∀ z ∈ fk b ks, z ∉ ks := fun z hz => by obtain ⟨k, _, rfl, h, _⟩ := fk_mem.mp hz; exact h
      have ndu : (ks ++ fk b ks).Nodup := List.nodup_append.mpr ⟨nd, nf, fun a ha b hb e => hdis b hb (e ▸ ha)⟩
      have hall : ∀ z ∈ ks ++ fk b ks, Alive b z ∧ z ∈ num :: b.map (·.1) := fun z hz => by
        rcases List.mem_append.mp hz with q | q
        · exact ha z q
        · exact ⟨fk_alive (fun z hz => (ha z hz).1) z q, hsub z q⟩
      have hlen := nodup_sub_len _ _ ndu fun z hz => (hall z hz).2
      rw [List.length_append, List.length_cons, List.length_map] at hlen
      have hk2 := hk.merge hf nf hdis
      obtain ⟨fr2, e2, hf2⟩ := hrun _ _ hk2
      have h6 := hb.len
      have hup := vUpdate (more := fr) (hu kvs) (by rw [hk.len, hl]; omega)
      have hset : (S ++ [Ob.dic kvs]).set S.length (.dic (mergeP kvs fr)) = S ++ [.dic (mergeP kvs fr)] := by simp
      rw [hset] at hup
      have hfz := frz_newD (S := S ++ [.dic (mergeP kvs fr)]) (xs := fr2)
      refine ⟨m - 1, S ++ [.dic kvs], _, S ++ [.dic (mergeP kvs fr)], by omega, ?_, ?_, mergeP kvs fr, ks ++ fk b ks, fr2, rfl, rfl, hk2, hf2, ndu, hall, List.mem_append_left _ h0, by rw [List.length_append]; omega⟩
      · have : (0 : Int) < (fr.length : Nat) := by omega
        simp [this]
        omega
      · simp only [xSeq, xDrop, xM, xVar0, xVarS, bind_okE, vTyD (hu kvs), if_true, xCons, xNil, hup, xAsg, xCallF, e2, hfz, xgN, List.set_cons_zero, List.set_cons_succ]
  have k0 : KeyIs [(.inr ("num" : Str), P.int 0)] [num] := rfl
  obtain ⟨fr, e1, hf⟩ := hrun _ _ k0
  have hfz := frz_newD (S := S ++ [.dic [(.inr ("num" : Str), P.int 0)]]) (xs := fr)
  obtain ⟨ρ', S', e, kvs, ks, v, rfl, rfl, hk, ha⟩ := while_ind I _ step bigW (b.length + 1) _ _ ⟨_, [num], fr, rfl, rfl, k0, hf, by simp, fun z hz => by rw [List.mem_singleton] at hz; subst hz; exact ⟨.base, List.mem_cons_self⟩, by simp, by omega⟩ (by have := hb.len; unfold bigW; omega)
  have hd : cDt (cDisp [((cP (.str ("num" : Str))), (cP (.int 0)))]) [some (.p (encB b)), none, none] S = .ok (.ref S.length) (S ++ [.dic [(.inr ("num" : Str), P.int 0)]]) := by
    simp [cDisp, cPairs, keyP, mergeP, putP]
  simp only [b_plain_values, xSeq, xAsg, hd, bind_okE, xgN, List.set_cons_zero, List.set_cons_succ, xCallF, xCons, xNil, xVar0, xVarS, e1, hfz]
  unfold sWhile
  rw [e]
  simp only [bind_okE, xRet, xVar0, xVarS]
  exact .ok ⟨kvs, ks, rfl, rfl, hk, ha⟩
def PlainOk (run : Run) (i : Nat) : Prop := ∀ (S : Sto) (b : List Kd), BookOk b → ∃ kvs ks, run i [.p (encB b)] S = .ok (.ref S.length) (S ++ [.dic kvs]) ∧ KeyIs kvs ks ∧ ∀ z, z ∈ ks ↔ Alive b z
theorem body_has (run : Run) (hp : PlainOk run iP) {S : Sto} (b : List Kd) (hb : BookOk b) (z : Str) : b_has_values iF iR iP iL run [some (.p (encB b)), some (.p (.str z))] S = .ok (.rt (.p (.bl (al b z)))) S := by
  obtain ⟨kvs, ks, e, hk, ha⟩ := hp S b hb
  have := vInKeys (y := .p (.dic kvs)) (z := z) false S rfl hk
  simp only [b_has_values, xRet, x2, xVar0, xVarS, bind_okE, xCallF, xCons, xNil, e, frz_newD, this, Bool.false_eq_true, if_false, al_mem ha]
theorem body_all (run : Run) {S : Sto} (b : List Kd) (z : Str) : Nd (b_all_makes iF iR iP iL run [some (.p (encB b)), some (.p (.str z)), none, none] S) fun f S' => f = .rt (.p (.tup ((mkOf b z).map encM))) ∧ S' = S := by
  simp only [b_all_makes, encB, xSeq, xFor, xIt, xVar0, bind_okE, xIter_tup]
  refine forE0 (fun pre ρ S' => S' = S ∧ (∀ k ∈ pre, k.1 ≠ z) ∧ ∃ v2 v3, ρ = [some (.p (.tup (b.map encK))), some (.p (.str z)), v2, v3]) ⟨rfl, by simp, _, _, rfl⟩ ?_ ?_
  · rintro pre k post ρ S' hbk ⟨rfl, hpre, v2, v3, rfl⟩
    unfold turnF
    simp only [encK, xgTp, List.length_cons, List.length_nil, Nat.reduceAdd, if_true, xgsCons, xgsNil, xgN, bind_okE, List.set_cons_zero, List.set_cons_succ, xSIf, xT, x2, xVar0, xVarS, vEqS, xbT]
    by_cases h : k.1 = z
    · simp only [h, decide_true, if_true, xRet, xVar0, xVarS, bind_okE]
      refine .ok (.inr ⟨_, rfl, .ok ⟨?_, rfl⟩⟩)
      have : b.find? (fun k => decide (k.1 = z)) = some k := by
        rw [hbk, List.find?_append, List.find?_eq_none.mpr fun y hy => by simp [hpre y hy]]
        simp [h]
      unfold mkOf
      rw [this]
    · simp only [h, decide_false, Bool.false_eq_true, if_false, xSNil]
      refine .ok (.inl ⟨_, rfl, rfl, ?_, _, _, rfl⟩)
      intro y hy
      rcases List.mem_append.mp hy with q | q
      · exact hpre y q
      · rw [List.mem_singleton] at q
        subst q; exact h
  · rintro ρ S' ⟨rfl, hpre, v2, v3, rfl⟩
    simp only [xRet, xTup, xNil, bind_okE, allP, List.length_nil, sizeLine_val, Nat.zero_le, if_true]
    refine .ok ⟨?_, rfl⟩
    have : b.find? (fun k => decide (k.1 = z)) = none := List.find?_eq_none.mpr fun y hy => by simp [hpre y hy]
    unfold mkOf
    rw [this]
    rfl
theorem body_makes (run : Run) (hp : PlainOk run iP) (hall : ∀ (S : Sto) (b : List Kd) (z : Str), run iL [.p (encB b), .p (.str z)] S = .ok (.p (.tup ((mkOf b z).map encM))) S) {S : Sto} (b : List Kd) (hb : BookOk b) (z : Str) :
    b_makes_of iF iR iP iL run [some (.p (encB b)), some (.p (.str z)), none, none, none] S = .ok (.rt (.p (.tup (((mkOf b z).filter fun m => m.2.all (al b)).map encM)))) S := by
  obtain ⟨kvs, ks, e, hk, ha⟩ := hp S b hb
  have hm := mkOf_ok hb z
  have hc := come_E (ms := mkOf b z) (S := S) (y := .p (.dic kvs)) (mem := al b) (i := 3) (j := 4) (k := 2) (ρ := [some (.p (encB b)), some (.p (.str z)), some (.p (.dic kvs)), none, none]) (xs0 := (mkOf b z).map encM) (by omega) hm.2
    (fun z => by have := vInKeys (y := .p (.dic kvs)) (z := z) false S rfl hk; rw [this]; simp only [Bool.false_eq_true, if_false, al_mem ha]) (by simp) (by simp) (by omega) (by omega) (by omega) rfl
  simp only [b_makes_of, xSeq, xAsg, xCallF, xCons, xNil, xVar0, xVarS, bind_okE, e, frz_newD, xgN, List.set_cons_zero, List.set_cons_succ, xRet, x1, xRo, xComp, xIt, hall, xfrz_p, xIter_tup, wipeE, hc, vTupRo]
end Gn
set_option Elab.async false
set_option linter.all false
set_option maxRecDepth 100000
set_option maxHeartbeats 4000000
namespace Gn
open Cw L2
open PySem hiding Run
variable {iF iR iP iL : Nat}

/-! ### the program's plain values, with what they are -/
theorem put_new {kvs : List (Key × P)} {ks : List Str} (h : KeyIs kvs ks) {z : Str} (hz : z ∉ ks) (v : P) : putP kvs (.inr z) v = kvs ++ [(.inr z, v)] := by
  unfold putP
  rw [if_neg]
  intro q
  obtain ⟨kv, hkv, e⟩ := List.any_eq_true.mp q
  have e := of_decide_eq_true e
  have : kv.1 ∈ kvs.map (·.1) := List.mem_map_of_mem hkv
  rw [h, e] at this
  obtain ⟨w, hw, e2⟩ := List.mem_map.mp this
  cases e2
  exact hz hw
theorem merge_new : ∀ {more kvs : List (Key × P)} {ks ms : List Str}, KeyIs kvs ks → KeyIs more ms → ms.Nodup → (∀ z ∈ ms, z ∉ ks) → mergeP kvs more = kvs ++ more
  | [], kvs, ks, ms, _, _, _, _ => (List.append_nil _).symm
  | kv :: r, kvs, ks, [], _, h, _, _ => by cases h
  | kv :: r, kvs, ks, m :: ms, hk, h, nd, hd => by
    unfold KeyIs at h
    rw [List.map_cons, List.map_cons, List.cons.injEq] at h
    have nd := List.nodup_cons.mp nd
    have e : mergeP kvs (kv :: r) = mergeP (putP kvs (.inr m) kv.2) r := by
      unfold mergeP; rw [List.foldl_cons, h.1]
    rw [e, put_new hk (hd m List.mem_cons_self)]
    have hk2 : KeyIs (kvs ++ [(.inr m, kv.2)]) (ks ++ [m]) := by unfold KeyIs at hk ⊢; rw [List.map_append, List.map_append, hk]; rfl
    rw [merge_new hk2 h.2 nd.2 (fun z hz => by rw [List.mem_append, List.mem_singleton, not_or]; exact ⟨hd z (List.mem_cons_of_mem _ hz), fun e => nd.1 (e ▸ hz)⟩), List.append_assoc]
    have : ((.inr m : Key), kv.2) = kv := by rw [← h.1]
    rw [this]; rfl
theorem look_app {a b : List (Key × P)} {z : Str} : lookK (a ++ b) (.inr z) = (lookK a (.inr z)).or (lookK b (.inr z)) := by
  unfold lookK
  rw [List.find?_append]
  cases a.find? fun kv => decide (kv.1 = (.inr z : Key)) <;> rfl
theorem look_none {kvs : List (Key × P)} {ks : List Str} (h : KeyIs kvs ks) {z : Str} (hz : z ∉ ks) : lookK kvs (.inr z) = none := by
  cases e : lookK kvs (.inr z) with
  | none => rfl
  | some v => exact absurd (look_in h e) hz
/-- item by item -/
inductive Al2 {α β : Type} (R : α → β → Prop) : List α → List β → Prop
  | nil : Al2 R [] []
  | cons {a : α} {b : β} {as : List α} {bs : List β} : R a b → Al2 R as bs → Al2 R (a :: as) (b :: bs)
theorem Al2.length {α β : Type} {R : α → β → Prop} : ∀ {as : List α} {bs : List β}, Al2 R as bs → as.length = bs.length
  | _, _, .nil => rfl
  | _, _, .cons _ t => congrArg (· + 1) t.length
theorem Al2.imp {α β : Type} {R R' : α → β → Prop} (h : ∀ a b, R a b → R' a b) : ∀ {as : List α} {bs : List β}, Al2 R as bs → Al2 R' as bs
  | _, _, .nil => .nil
  | _, _, .cons r t => .cons (h _ _ r) (t.imp h)
theorem Al2.map {α β : Type} {R : α → β → Prop} (f : α → β) : ∀ {as : List α}, (∀ a ∈ as, R a (f a)) → Al2 R as (as.map f)
  | [], _ => .nil
  | a :: r, h => .cons (h a List.mem_cons_self) (Al2.map f fun x hx => h x (List.mem_cons_of_mem _ hx))
theorem Al2.zip {α β : Type} {R : α → β → Prop} : ∀ {as : List α} {bs : List β}, Al2 R as bs → ∀ q ∈ as.zip bs, R q.1 q.2
  | _, _, .nil, q, h => by cases h
  | _, _, .cons r t, q, h => by
    rw [List.zip_cons_cons] at h
    rcases List.mem_cons.mp h with rfl | h
    · exact r
    · exact t.zip q h
def VT (b : List Kd) : Nat → Str → P → Prop
  | 0, z, v => z = num ∧ ∃ i : Int, v = .int i
  | d + 1, z, v => (z = num ∧ ∃ i : Int, v = .int i) ∨ (z ≠ num ∧ ∃ m ∈ mkOf b z, ∃ ys : List P, v = .tup (.str m.1 :: ys) ∧ Al2 (VT b d) m.2 ys)
theorem VT.mono {b : List Kd} : ∀ {d e : Nat} {z : Str} {v : P}, d ≤ e → VT b d z v → VT b e z v
  | 0, 0, _, _, _, h => h
  | 0, e + 1, _, _, _, h => .inl h
  | d + 1, 0, _, _, h, _ => absurd h (Nat.not_succ_le_zero _)
  | d + 1, e + 1, z, v, h, .inl q => .inl q
  | d + 1, e + 1, z, v, h, .inr ⟨hn, m, hm, ys, e1, a⟩ => .inr ⟨hn, m, hm, ys, e1, a.imp fun f y => VT.mono (Nat.le_of_succ_le_succ h)⟩
def FirstV (run : Run) (i : Nat) : Prop := ∀ (S : Sto) (n : Nat) (kvs : List (Key × P)) (ks : List Str) (ms : List Mk), S[n]? = some (.dic kvs) → KeyIs kvs ks → (∀ m ∈ ms, m.2.length ≤ 4) → run i [.p (.tup (ms.map encM)), .ref n] S = .ok (.p (madeOf kvs ks ms)) S
theorem body_roundV (run : Run) (hf : FirstV run iF) {S : Sto} {n : Nat} {kvs : List (Key × P)} {ks : List Str} (hS : S[n]? = some (.dic kvs)) (hk : KeyIs kvs ks) (b : List Kd) (hb : BookOk b) :
    Nd (b_next_round iF iR iP iL run [some (.p (encB b)), some (.ref n), none, none, none, none] S) fun f S' => ∃ fr, f = .rt (.ref S.length) ∧ S' = S ++ [.dic fr] ∧ KeyIs fr (fk b ks) ∧ ∀ k ∈ b, k.1 ∈ fk b ks → lookK fr (.inr k.1) = some (madeOf kvs ks k.2) := by
  refine asgE (d := .ref S.length) (S' := S ++ [.dic []]) rfl ?_
  simp only [List.set_cons_zero, List.set_cons_succ]
  refine forS (enc := encK) (l := b) (S' := S ++ [.dic []]) rfl (fun pre ρ S' => ∃ fr v3 v4 v5, S' = S ++ [.dic fr] ∧ KeyIs fr (fk pre ks) ∧ (∀ k ∈ pre, k.1 ∈ fk pre ks → lookK fr (.inr k.1) = some (madeOf kvs ks k.2)) ∧ ρ = [some (.p (encB b)), some (.ref n), some (.ref S.length), v3, v4, v5]) ⟨[], _, _, _, rfl, rfl, by simp, rfl⟩ ?_ ?_
  · rintro pre k post ρ S' hbk ⟨fr, v3, v4, v5, rfl, hfr, hfv, rfl⟩
    have hkb : k ∈ b := by rw [hbk]; simp
    have hS2 : (S ++ [Ob.dic fr])[n]? = some (.dic kvs) := get_app hS
    have e := hf (S ++ [.dic fr]) n kvs ks k.2 hS2 hk (hb.fl k hkb)
    refine Nd.go ?_
    unfold turnF
    simp only [encK, xgTp, List.length_cons, List.length_nil, Nat.reduceAdd, if_true, xgsCons, xgsNil, xgN, bind_okE, List.set_cons_zero, List.set_cons_succ, xSeq, xAsg, xCallF, xCons, xNil, xVar0, xVarS, e, xfrz_p, xSIf, xAnd, xT, x2, xP, vInKeys true _ (dic_ref hS2) hk, xbT, vIsnt, made_isN, Bool.not_not]
    have hdis : ∀ y ∈ pre, y.1 ≠ k.1 := fun y hy => by
      have nd := hb.nd
      rw [hbk, List.map_append, List.nodup_append] at nd
      exact nd.2.2 y.1 (List.mem_map_of_mem hy) k.1 (by simp)
    have same : fk (pre ++ [k]) ks = fk pre ks → ∀ y ∈ pre ++ [k], y.1 ∈ fk (pre ++ [k]) ks → lookK fr (.inr y.1) = some (madeOf kvs ks y.2) := fun hq y hy hm => by
      rw [hq] at hm
      rcases List.mem_append.mp hy with q | q
      · exact hfv y q hm
      · rw [List.mem_singleton] at q
        subst q
        obtain ⟨k2, hk2, e2, _⟩ := fk_mem.mp hm
        exact absurd e2 (hdis k2 hk2)
    by_cases h1 : k.1 ∈ ks
    · simp only [h1, decide_true, Bool.not_true, Bool.false_eq_true, if_false, bind_okE, xSNil]
      have hq : fk (pre ++ [k]) ks = fk pre ks := by unfold fk; rw [List.filter_append]; simp [h1]
      exact .ok ⟨_, rfl, fr, _, _, _, rfl, by rw [hq]; exact hfr, same hq, rfl⟩
    · cases h2 : k.2.any (gd ks) with
      | false =>
        simp only [h1, decide_false, Bool.not_false, if_true, bind_okE, Bool.false_eq_true, if_false, xSNil]
        have hq : fk (pre ++ [k]) ks = fk pre ks := by unfold fk; rw [List.filter_append]; simp [h1, h2]
        exact .ok ⟨_, rfl, fr, _, _, _, rfl, by rw [hq]; exact hfr, same hq, rfl⟩
      | true =>
        have hset := vSetD (z := k.1) (y := madeOf kvs ks k.2) (get_new (S := S) (o := .dic fr)) (by
          rw [hfr.len]
          unfold fk
          rw [List.length_map]
          have := List.length_filter_le (fun k : Kd => !decide (k.1 ∈ ks) && k.2.any (gd ks)) pre
          have h6 := hb.len
          rw [hbk, List.length_append] at h6
          omega)
        simp only [h1, decide_false, Bool.not_false, if_true, bind_okE, xAsg, xVar0, xVarS, xgAt, hset]
        have hq : fk (pre ++ [k]) ks = fk pre ks ++ [k.1] := by unfold fk; rw [List.filter_append]; simp [h1, h2]
        have hno : k.1 ∉ fk pre ks := fun q => by
          obtain ⟨k2, hk2, e2, _⟩ := fk_mem.mp q
          exact hdis k2 hk2 e2
        refine .ok ⟨_, rfl, putP fr (.inr k.1) (madeOf kvs ks k.2), _, _, _, by simp, by rw [hq]; exact hfr.put hno _, fun y hy hm => ?_, rfl⟩
        rw [look_put hfr hno]
        rcases List.mem_append.mp hy with q | q
        · rw [if_neg (hdis y q)]
          rw [hq] at hm
          rcases List.mem_append.mp hm with m1 | m1
          · exact hfv y q m1
          · exact absurd (List.mem_singleton.mp m1) (hdis y q)
        · rw [List.mem_singleton] at q
          subst q
          rw [if_pos rfl]
  · rintro ρ S' ⟨fr, v3, v4, v5, rfl, hfr, hfv, rfl⟩
    exact retE (d := .ref S.length) (S' := S ++ [.dic fr]) rfl ⟨fr, rfl, rfl, hfr, hfv⟩
def RoundV (run : Run) (i : Nat) : Prop := ∀ (S : Sto) (n : Nat) (kvs : List (Key × P)) (ks : List Str) (b : List Kd), S[n]? = some (.dic kvs) → KeyIs kvs ks → BookOk b →
  ∃ fr, run i [.p (encB b), .ref n] S = .ok (.ref S.length) (S ++ [.dic fr]) ∧ KeyIs fr (fk b ks) ∧ ∀ k ∈ b, k.1 ∈ fk b ks → lookK fr (.inr k.1) = some (madeOf kvs ks k.2)
end Gn
set_option Elab.async false
set_option linter.all false
set_option maxRecDepth 100000
set_option maxHeartbeats 4000000
namespace Gn
open Cw L2
open PySem hiding Run
variable {iF iR iP iL : Nat}

/-- known so far, each with what it is -/
def TyD (b : List Kd) (kvs : List (Key × P)) (ks : List Str) : Prop := ∃ D, D + 1 ≤ ks.length ∧ ∀ z ∈ ks, ∃ v, lookK kvs (.inr z) = some v ∧ VT b D z v
theorem TyD.next {b : List Kd} (hb : BookOk b) {kvs fr : List (Key × P)} {ks : List Str} (h : TyD b kvs ks) (hk : KeyIs kvs ks) (hf : KeyIs fr (fk b ks)) (hv : ∀ k ∈ b, k.1 ∈ fk b ks → lookK fr (.inr k.1) = some (madeOf kvs ks k.2)) (hne : fk b ks ≠ []) : TyD b (mergeP kvs fr) (ks ++ fk b ks) := by
  obtain ⟨D, hD, h⟩ := h
  have hdis : ∀ z ∈ fk b ks, z ∉ ks := fun z hz => by obtain ⟨k, _, rfl, h, _⟩ := fk_mem.mp hz; exact h
  have hp : 0 < (fk b ks).length := List.length_pos_iff.mpr hne
  refine ⟨D + 1, by rw [List.length_append]; omega, fun z hz => ?_⟩
  rw [merge_new hk hf (fk_nd hb.nd) hdis, look_app]
  by_cases hzk : z ∈ ks
  · obtain ⟨v, hv1, hv2⟩ := h z hzk
    rw [hv1]
    exact ⟨v, rfl, hv2.mono (Nat.le_succ D)⟩
  · rcases List.mem_append.mp hz with q | q
    · exact absurd q hzk
    · obtain ⟨k, hkb, rfl, _, hany⟩ := fk_mem.mp q
      rw [look_none hk hzk, hv k hkb q]
      refine ⟨_, rfl, ?_⟩
      have hmk : mkOf b k.1 = k.2 := by
        unfold mkOf
        cases e : b.find? fun y => decide (y.1 = k.1) with
        | none => exact absurd (List.find?_eq_none.mp e k hkb) (by simp)
        | some y =>
          have h1 := List.mem_of_find?_eq_some e
          have h2 := List.find?_some e
          rw [kind_one hb h1 hkb (of_decide_eq_true h2)]
      unfold madeOf
      cases e : k.2.find? (gd ks) with
      | none =>
        obtain ⟨m, hm, g⟩ := List.any_eq_true.mp hany
        exact absurd g (List.find?_eq_none.mp e m hm)
      | some m =>
        have hm := List.mem_of_find?_eq_some e
        have hg := gd_iff.mp (List.find?_some e)
        refine .inr ⟨hb.nn k hkb, m, by rw [hmk]; exact hm, _, rfl, Al2.map _ fun f hf => ?_⟩
        obtain ⟨v, hv1, hv2⟩ := h f (hg f hf)
        rw [hv1]
        exact hv2
theorem body_plainV (run : Run) (hr : RoundV run iR) {S : Sto} (b : List Kd) (hb : BookOk b) :
    Nd (b_plain_values iF iR iP iL run [some (.p (encB b)), none, none] S) fun f S' => ∃ kvs ks, f = .rt (.ref S.length) ∧ S' = S ++ [.dic kvs] ∧ KeyIs kvs ks ∧ (∀ z, z ∈ ks ↔ Alive b z) ∧ TyD b kvs ks ∧ ks.length ≤ 7 := by
  have hu : ∀ kvs : List (Key × P), (S ++ [Ob.dic kvs])[S.length]? = some (.dic kvs) := fun kvs => get_new
  have hrun : ∀ kvs ks, KeyIs kvs ks → ∃ fr, ∃ (_ : run iR [.p (encB b), .ref S.length] (S ++ [.dic kvs]) = .ok (.ref (S ++ [Ob.dic kvs]).length) ((S ++ [.dic kvs]) ++ [.dic fr])), KeyIs fr (fk b ks) ∧ ∀ k ∈ b, k.1 ∈ fk b ks → lookK fr (.inr k.1) = some (madeOf kvs ks k.2) := fun kvs ks hk => by
    obtain ⟨fr, e, h, h2⟩ := hr (S ++ [.dic kvs]) S.length kvs ks b (hu kvs) hk hb
    exact ⟨fr, e, h, h2⟩
  let I : Nat → Ev → Sto → Prop := fun m ρ S' => ∃ kvs ks fr, ρ = [some (.p (encB b)), some (.ref S.length), some (.p (.dic fr))] ∧ S' = S ++ [.dic kvs] ∧ KeyIs kvs ks ∧ (KeyIs fr (fk b ks) ∧ (∀ k ∈ b, k.1 ∈ fk b ks → lookK fr (.inr k.1) = some (madeOf kvs ks k.2)) ∧ TyD b kvs ks) ∧ ks.Nodup ∧ (∀ z ∈ ks, Alive b z ∧ z ∈ num :: b.map (·.1)) ∧ num ∈ ks ∧ b.length + 1 - ks.length ≤ m
  have step : ∀ m ρ S', I m ρ S' → (∃ S1, (cT (c2 gGt (c1 gLen (cCons (cVar 2) cNil)) (cP (.int 0)))) ρ S' = .ok false S1 ∧ (∃ kvs ks v, ρ = [some (.p (encB b)), some (.ref S.length), v] ∧ S1 = S ++ [.dic kvs] ∧ KeyIs kvs ks ∧ (∀ z, z ∈ ks ↔ Alive b z) ∧ TyD b kvs ks ∧ ks.length ≤ 7)) ∨
      ∃ m' S1 ρ' S2, m = m' + 1 ∧ (cT (c2 gGt (c1 gLen (cCons (cVar 2) cNil)) (cP (.int 0)))) ρ S' = .ok true S1 ∧ (sSeq (sDrop (cM "dict" gUpdate (cVar 1) (cCons (cVar 2) cNil))) (sAsg (cCallF run iR (cCons (cVar 0) (cCons (cVar 1) cNil))) (gN 2))) ρ S1 = .ok (.nx ρ') S2 ∧ I m' ρ' S2 := by
    rintro m ρ S' ⟨kvs, ks, fr, rfl, rfl, hk, ⟨hf, hfv, hty⟩, nd, ha, h0, hm⟩
    have h7 : ks.length ≤ 7 := by
      have := nodup_sub_len _ _ nd fun z hz => (ha z hz).2
      rw [List.length_cons, List.length_map] at this
      have := hb.len
      omega
    by_cases h : fk b ks = []
    · left
      rw [h] at hf
      have hl : fr.length = 0 := hf.len
      refine ⟨S ++ [.dic kvs], ?_, kvs, ks, _, rfl, rfl, hk, (fun z => ⟨fun q => (ha z q).1, closed_alive (fk_closed h0 h)⟩), hty, h7⟩
      simp [hl]
    · right
      have hl : fr.length = (fk b ks).length := hf.len
      have hp : 0 < (fk b ks).length := List.length_pos_iff.mpr h
      have nf := fk_nd (ks := ks) hb.nd
      have hsub : ∀ z ∈ fk b ks, z ∈ num :: b.map (·.1) := fun z hz => by
        obtain ⟨k, hk, rfl, _⟩ := fk_mem.mp hz
        exact List.mem_cons_of_mem _ (names_mem hk)
      have hdis : ∀ z ∈ fk b ks, z ∉ ks := fun z hz => by obtain ⟨k, _, rfl, h, _⟩ := fk_mem.mp hz; exact h
      have ndu : (ks ++ fk b ks).Nodup := List.nodup_append.mpr ⟨nd, nf, fun a ha b hb e => hdis b hb (e ▸ ha)⟩
      have hall : ∀ z ∈ ks ++ fk b ks, Alive b z ∧ z ∈ num :: b.map (·.1) := fun z hz => by
        rcases List.mem_append.mp hz with q | q
        · exact ha z q
        · exact ⟨fk_alive (fun z hz => (ha z hz).1) z q, hsub z q⟩
      have hlen := nodup_sub_len _ _ ndu fun z hz => (hall z hz).2
      rw [List.length_append, List.length_cons, List.length_map] at hlen
      have hk2 := hk.merge hf nf hdis
      obtain ⟨fr2, e2, hf2, hfv2⟩ := hrun _ _ hk2
      have h6 := hb.len
      have hup := vUpdate (more := fr) (hu kvs) (by rw [hk.len, hl]; omega)
      have hset : (S ++ [Ob.dic kvs]).set S.length (.dic (mergeP kvs fr)) = S ++ [.dic (mergeP kvs fr)] := by simp
      rw [hset] at hup
      have hfz := frz_newD (S := S ++ [.dic (mergeP kvs fr)]) (xs := fr2)
      refine ⟨m - 1, S ++ [.dic kvs], _, S ++ [.dic (mergeP kvs fr)], by omega, ?_, ?_, mergeP kvs fr, ks ++ fk b ks, fr2, rfl, rfl, hk2, ⟨hf2, hfv2, hty.next hb hk hf hfv h⟩, ndu, hall, List.mem_append_left _ h0, by rw [List.length_append]; omega⟩
      · have : (0 : Int) < (fr.length : Nat) := by omega
        simp [this]
        omega
      · simp only [xSeq, xDrop, xM, xVar0, xVarS, bind_okE, vTyD (hu kvs), if_true, xCons, xNil, hup, xAsg, xCallF, e2, hfz, xgN, List.set_cons_zero, List.set_cons_succ]
  have k0 : KeyIs [(.inr ("num" : Str), P.int 0)] [num] := rfl
  obtain ⟨fr, e1, hf, hfv⟩ := hrun _ _ k0
  have hfz := frz_newD (S := S ++ [.dic [(.inr ("num" : Str), P.int 0)]]) (xs := fr)
  have t0 : TyD b [(.inr ("num" : Str), P.int 0)] [num] := ⟨0, by simp, fun z hz => by
    rw [List.mem_singleton] at hz
    subst hz
    exact ⟨.int 0, rfl, rfl, 0, rfl⟩⟩
  obtain ⟨ρ', S', e, kvs, ks, v, rfl, rfl, hk, ha, hty, h7⟩ := while_ind I _ step bigW (b.length + 1) _ _ ⟨_, [num], fr, rfl, rfl, k0, ⟨hf, hfv, t0⟩, by simp, fun z hz => by rw [List.mem_singleton] at hz; subst hz; exact ⟨.base, List.mem_cons_self⟩, by simp, by omega⟩ (by have := hb.len; unfold bigW; omega)
  have hd : cDt (cDisp [((cP (.str ("num" : Str))), (cP (.int 0)))]) [some (.p (encB b)), none, none] S = .ok (.ref S.length) (S ++ [.dic [(.inr ("num" : Str), P.int 0)]]) := by
    simp [cDisp, cPairs, keyP, mergeP, putP]
  simp only [b_plain_values, xSeq, xAsg, hd, bind_okE, xgN, List.set_cons_zero, List.set_cons_succ, xCallF, xCons, xNil, xVar0, xVarS, e1, hfz]
  unfold sWhile
  rw [e]
  simp only [bind_okE, xRet, xVar0, xVarS]
  exact .ok ⟨kvs, ks, rfl, rfl, hk, ha, hty, h7⟩
def PlainV (run : Run) (i : Nat) : Prop := ∀ (S : Sto) (b : List Kd), BookOk b → ∃ kvs ks, run i [.p (encB b)] S = .ok (.ref S.length) (S ++ [.dic kvs]) ∧ KeyIs kvs ks ∧ (∀ z, z ∈ ks ↔ Alive b z) ∧ ∀ z ∈ ks, ∃ v, lookK kvs (.inr z) = some v ∧ VT b 6 z v
theorem PlainV.ok {run : Run} {i : Nat} (h : PlainV run i) : PlainOk run i := fun S b hb => by
  obtain ⟨kvs, ks, e, h1, h2, _⟩ := h S b hb
  exact ⟨kvs, ks, e, h1, h2⟩
end Gn
set_option Elab.async false
set_option linter.all false
namespace Gn
open Cw L2
open PySem hiding Run
theorem eqv_M {a c : Mk} (h : a.1 ≠ c.1) : P.eqv (encM a) (encM c) = false := by
  have : P.eqv (.str a.1) (.str c.1) = false := by rw [eqv_str]; exact decide_eq_false h
  unfold P.eqv at this
  have e : P.eqv (encM a) (encM c) = PyData.eqvAll (P.datas [.str a.1, .tup (a.2.map .str)]) (P.datas [.str c.1, .tup (c.2.map .str)]) := by simp only [P.eqv, encM, P.data, PyData.eqv]
  rw [e]
  simp only [P.datas, PyData.eqvAll, this, Bool.false_and]
theorem in_come {l : List Mk} {p : Mk → Bool} (hn : (l.map (·.1)).Nodup) {m : Mk} (hm : m ∈ l) : inList (encM m) ((l.filter p).map encM) = p m := by
  unfold inList
  cases hp : p m with
  | true => exact List.any_eq_true.mpr ⟨encM m, List.mem_map_of_mem (List.mem_filter.mpr ⟨hm, hp⟩), eqv_self _ (Nat.le_trans (dep_encM m) (by omega))⟩
  | false =>
    refine List.any_eq_false.mpr fun x hx => ?_
    obtain ⟨c, hc, rfl⟩ := List.mem_map.mp hx
    obtain ⟨hc1, hc2⟩ := List.mem_filter.mp hc
    rw [eqv_M]
    · simp
    · intro e
      obtain ⟨i, hi, e1⟩ := List.mem_iff_getElem.mp hc1
      obtain ⟨j, hj, e2⟩ := List.mem_iff_getElem.mp hm
      have := (List.getElem_inj hn (h₀ := by rw [List.length_map]; exact hi) (h₁ := by rw [List.length_map]; exact hj)).mp (by rw [List.getElem_map, List.getElem_map, e1, e2, e])
      subst this
      rw [e1] at e2
      rw [e2, hp] at hc2
      cases hc2
theorem vInCome {l : List Mk} {p : Mk → Bool} (hn : (l.map (·.1)).Nodup) {m : Mk} (hm : m ∈ l) (S : Sto) : gInB false (.p (encM m)) (.p (.ro ((l.filter p).map encM))) S = .ok (.p (.bl (p m))) S := by
  have d1 := dep_encM m
  have d2 := deps_makes (l.filter p)
  have hf : flatP (encM m) = false := rfl
  show (match sign1 (encM m) (.p (.ro ((l.filter p).map encM))) with
    | some (c, z) => R.ok (Cw.D.p (P.bl (decide (c ∈ z.cps.toList)))) S
    | none => if (flatP (encM m) && ((l.filter p).map encM).all flatP) = true then .ok (.p (.bl (inList (encM m) ((l.filter p).map encM)))) S else
        if (encM m).dep ≤ 64 ∧ P.deps ((l.filter p).map encM) < 64 then .ok (.p (.bl (inList (encM m) ((l.filter p).map encM)))) S else .no) = _
  show (if (flatP (encM m) && ((l.filter p).map encM).all flatP) = true then R.ok (Cw.D.p (P.bl (inList (encM m) ((l.filter p).map encM)))) S else
        if (encM m).dep ≤ 64 ∧ P.deps ((l.filter p).map encM) < 64 then .ok (.p (.bl (inList (encM m) ((l.filter p).map encM)))) S else .no) = _
  rw [hf, Bool.false_and, if_neg (by simp), if_pos (by omega), in_come hn hm]
theorem isB_b (neg a c : Bool) (S : Sto) : gIsB neg (.p (.bl a)) (.p (.bl c)) S = .ok (.p (.bl (if neg then !decide (a = c) else decide (a = c)))) S := by
  cases neg <;> cases a <;> cases c <;> rfl
end Gn
set_option Elab.async false
set_option linter.all false
set_option maxRecDepth 100000
set_option maxHeartbeats 4000000
/-! what the bodies do -/
namespace K07
open Cw L2
/-- first_made(makes, known): makes=0 known=1 make=2 fields=3 field=4 -/
def b_first_made (run : Run) : CS :=
  (sSeq (sFor (cIt (cVar 0)) (gTp 2 (gsCons (gN 2) (gsCons (gN 3) gsNil)))
    (sIf (cTru (c1 gAll (cCons (cRo (cComp (cIt (cVar 3)) (gN 4) cYes (c2 (gInB false) (cVar 4) (cVar 1)) [4])) cNil)))
    (sRet (c2 gAdd (cTup (cCons (cVar 2) cNil)) (c1 gTuple (cCons (cRo (cComp (cIt (cVar 3)) (gN 4) cYes (c2 gIx (cVar 1) (cVar 4)) [4])) cNil))))
    sNil))
  (sRet (cP .non)))
/-- next_round(book, known): book=0 known=1 fresh=2 kind=3 makes=4 value=5 -/
def b_next_round (run : Run) : CS :=
  (sSeq (sAsg (cDt cDNew) (gN 2))
  (sSeq (sFor (cIt (cVar 0)) (gTp 2 (gsCons (gN 3) (gsCons (gN 4) gsNil)))
    (sSeq (sAsg (cCallF run 0 (cCons (cVar 4) (cCons (cVar 1) cNil))) (gN 5))
  (sIf (cAnd (cT (c2 (gInB true) (cVar 3) (cVar 1))) (cT (c2 (gIs true) (cVar 5) (cP .non))))
    (sAsg (cVar 5) (gAt (cVar 2) (cVar 3)))
    sNil)))
  (sRet (cVar 2))))
/-- plain_values(book): book=0 known=1 fresh=2 -/
def b_plain_values (run : Run) : CS :=
  (sSeq (sAsg (cDt (cDisp [((cP (.str "num")), (cP (.int 0)))])) (gN 1))
  (sSeq (sAsg (cCallF run 1 (cCons (cVar 0) (cCons (cVar 1) cNil))) (gN 2))
  (sSeq (sWhile (cT (c2 gGt (c1 gLen (cCons (cVar 2) cNil)) (cP (.int 0))))
    (sSeq (sDrop (cM "dict" gUpdate (cVar 1) (cCons (cVar 2) cNil)))
  (sAsg (cCallF run 1 (cCons (cVar 0) (cCons (cVar 1) cNil))) (gN 2))))
  (sRet (cVar 1)))))
/-- has_values(book, kind): book=0 kind=1 -/
def b_has_values (run : Run) : CS :=
  (sRet (c2 (gInB false) (cVar 1) (cCallF run 2 (cCons (cVar 0) cNil))))
/-- plain_value(book, kind): book=0 kind=1 -/
def b_plain_value (run : Run) : CS :=
  (sRet (c2 gIx (cCallF run 2 (cCons (cVar 0) cNil)) (cVar 1)))
/-- all_makes(book, kind): book=0 kind=1 name=2 makes=3 -/
def b_all_makes (run : Run) : CS :=
  (sSeq (sFor (cIt (cVar 0)) (gTp 2 (gsCons (gN 2) (gsCons (gN 3) gsNil)))
    (sIf (cT (c2 (gEqB false) (cVar 2) (cVar 1)))
    (sRet (cVar 3))
    sNil))
  (sRet (cTup cNil)))
/-- makes_of(book, kind): book=0 kind=1 known=2 make=3 field=4 -/
def b_makes_of (run : Run) : CS :=
  (sSeq (sAsg (cCallF run 2 (cCons (cVar 0) cNil)) (gN 2))
  (sRet (c1 gTuple (cCons (cRo (cComp (cIt (cCallF run 5 (cCons (cVar 0) (cCons (cVar 1) cNil)))) (gN 3) (cTru (c1 gAll (cCons (cRo (cComp (cIt (c2 gIx (cVar 3) (cP (.int 1)))) (gN 4) cYes (c2 (gInB false) (cVar 4) (cVar 2)) [4])) cNil))) (cVar 3) [3])) cNil))))
/-- _law_pool(cell): cell=0 -/
def b_law_pool (run : Run) : CS :=
  (sRet (cTr (cLst (cCons (c1 gMax (cCons (cP (.int 0)) (cCons (c2 gSub (cVar 0) (c2 gPow (cP (.int 10)) (cP (.int 18)))) cNil))) (cCons (c2 gMod (cVar 0) (c2 gPow (cP (.int 10)) (cP (.int 18)))) (cCons (cP (.int 0)) cNil))))))
/-- _law_next(pool, base): pool=0 base=1 digit=2 near=3 stir=4 -/
def b_law_next (run : Run) : CS :=
  (sSeq (sIf (cT (c2 gGt (c2 gIx (cVar 0) (cP (.int 0))) (cP (.int 0))))
    (sSeq (sAsg (c2 gMod (c2 gIx (cVar 0) (cP (.int 0))) (cVar 1)) (gN 2))
  (sSeq (sAsg (c2 gDiv (c2 gIx (cVar 0) (cP (.int 0))) (cVar 1)) (gAt (cVar 0) (cP (.int 0))))
  (sRet (cVar 2))))
    sNil)
  (sSeq (sAsg (c2 gAdd (c2 gIx (cVar 0) (cP (.int 2))) (cP (.int 1))) (gAt (cVar 0) (cP (.int 2))))
  (sSeq (sAsg (c2 gMod (c2 gAdd (c2 gIx (cVar 0) (cP (.int 1))) (c2 gMul (cP (.int 7919)) (c2 gIx (cVar 0) (cP (.int 2))))) (cP (.int 1000000007))) (gN 3))
  (sSeq (sAsg (c2 gMod (c2 gMul (c2 gAdd (cVar 3) (cP (.int 11))) (c2 gAdd (cVar 3) (cP (.int 48271)))) (cP (.int 998244353))) (gN 4))
  (sRet (c2 gMod (c2 gDiv (c2 gMod (c2 gMul (cVar 4) (cVar 4)) (cP (.int 2147483647))) (cP (.int 8))) (cVar 1)))))))
/-- _law_cells(script, many): script=0 many=1 found=2 k=3 -/
def b_law_cells (run : Run) : CS :=
  (sSeq (sAsg (cTr (nRep (cLst (cCons (cP (.int 0)) cNil)) (cVar 1))) (gN 2))
  (sSeq (sFor (cRng1 (c1 gLen (cCons (cVar 0) cNil))) (gN 3)
    (sIf (cT (c2 gLt (cVar 3) (cVar 1)))
    (sAsg (c2 gIx (cVar 0) (cVar 3)) (gAt (cVar 2) (cVar 3)))
    (sAsg (c2 gAdd (c2 gMul (c2 gIx (cVar 2) (c2 gMod (cVar 3) (cVar 1))) (cP (.int 31))) (c2 gIx (cVar 0) (cVar 3))) (gAt (cVar 2) (c2 gMod (cVar 3) (cVar 1))))))
  (sRet (cVar 2))))
/-- _law_spelt(number, size): number=0 size=1 letters=2 name=3 k=4 -/
def b_law_spelt (run : Run) : CS :=
  (sSeq (sAsg (cP (.str "abcdefghijklmnopqrstuvwxyz")) (gN 2))
  (sSeq (sAsg (cP (.str "")) (gN 3))
  (sSeq (sFor (cRng1 (cVar 1)) (gN 4)
    (sSeq (sAsg (c2 gAdd (c2 gIx (cVar 2) (c2 gMod (cVar 0) (cP (.int 26)))) (cVar 3)) (gN 3))
  (sAsg (c2 gDiv (cVar 0) (cP (.int 26))) (gN 0))))
  (sRet (cVar 3)))))
/-- _law_any_name(pool, taken): pool=0 taken=1 size=2 number=3 turn=4 -/
def b_law_any_name (run : Run) : CS :=
  (sSeq (sAsg (c2 gAdd (cP (.int 1)) (cCallF run 8 (cCons (cVar 0) (cCons (cP (.int 8)) cNil)))) (gN 2))
  (sSeq (sAsg (cCallF run 8 (cCons (cVar 0) (cCons (c2 gPow (cP (.int 26)) (cP (.int 8))) cNil))) (gN 3))
  (sSeq (sFor (cRng1 (c1 gLen (cCons (cVar 1) cNil))) (gN 4)
    (sIf (cT (c2 (gInB false) (cCallF run 10 (cCons (cVar 3) (cCons (cVar 2) cNil))) (cVar 1)))
    (sAsg (c2 gAdd (cVar 3) (cP (.int 1))) (gN 3))
    sNil))
  (sRet (cCallF run 10 (cCons (cVar 3) (cCons (cVar 2) cNil)))))))
/-- _law_names(pool, many, taken): pool=0 many=1 taken=2 found=3 size=4 k=5 base=6 at=7 first=8 tails=9 name=10 -/
def b_law_names (run : Run) : CS :=
  (sSeq (sAsg (cTr (cLst cNil)) (gN 3))
  (sSeq (sAsg (cCallF run 8 (cCons (cVar 0) (cCons (cP (.int 14)) cNil))) (gN 4))
  (sSeq (sIf (cT (c2 gGt (cVar 4) (cP (.int 6))))
    (sSeq (sFor (cRng1 (cVar 1)) (gN 5)
    (sDrop (cM "list" gAppend (cVar 3) (cCons (cCallF run 11 (cCons (cVar 0) (cCons (c2 gAdd (cVar 3) (cVar 2)) cNil))) cNil))))
  (sRet (cVar 3)))
    sNil)
  (sSeq (sAsg (cCallF run 10 (cCons (cCallF run 8 (cCons (cVar 0) (cCons (c2 gPow (cP (.int 26)) (cP (.int 6))) cNil))) (cCons (cVar 4) cNil))) (gN 6))
  (sSeq (sAsg (cCallF run 8 (cCons (cVar 0) (cCons (c2 gAdd (cVar 4) (cP (.int 1))) cNil))) (gN 7))
  (sSeq (sAsg (cCallF run 8 (cCons (cVar 0) (cCons (cP (.int 26)) cNil))) (gN 8))
  (sSeq (sAsg (cCallF run 8 (cCons (cVar 0) (cCons (cP (.int 3)) cNil))) (gN 9))
  (sSeq (sFor (cRng1 (cVar 1)) (gN 5)
    (sSeq (sAsg (c2 gAdd (c2 gAdd (cSl (cVar 6) cONone (cOSome (cVar 7))) (cCallF run 10 (cCons (c2 gAdd (cVar 8) (c2 gMul (cP (.int 5)) (cVar 5))) (cCons (cP (.int 1)) cNil)))) (cSl (cVar 6) (cOSome (cVar 7)) cONone)) (gN 10))
  (sSeq (sIf (cOr (cAnd (cT (c2 (gEqB false) (cVar 9) (cP (.int 1)))) (cT (c2 (gEqB false) (c2 gMod (cVar 5) (cP (.int 2))) (cP (.int 1))))) (cT (c2 (gInB false) (cVar 10) (cVar 2))))
    (sAsg (c2 gAdd (cVar 10) (cP (.str "b"))) (gN 10))
    sNil)
  (sDrop (cM "list" gAppend (cVar 3) (cCons (cVar 10) cNil))))))
  (sRet (cVar 3))))))))))
/-- _law_book(pool): pool=0 many=1 chain=2 kinds=3 makes=4 book=5 at=6 some=7 among=8 count=9 k=10 size=11 fields=12 first=13 place=14 -/
def b_law_book (run : Run) : CS :=
  (sSeq (sAsg (c2 gIx (cRo (cLst (cCons (cP (.int 1)) (cCons (cP (.int 2)) (cCons (cP (.int 2)) (cCons (cP (.int 3)) (cCons (cP (.int 3)) (cCons (cP (.int 4)) (cCons (cP (.int 4)) (cCons (cP (.int 6)) cNil)))))))))) (cCallF run 8 (cCons (cVar 0) (cCons (cP (.int 8)) cNil)))) (gN 1))
  (sSeq (sAsg (c2 (gEqB false) (cCallF run 8 (cCons (cVar 0) (cCons (cP (.int 8)) cNil))) (cP (.int 0))) (gN 2))
  (sSeq (sIf (cTru (cVar 2))
    (sAsg (c2 gAdd (cP (.int 4)) (cCallF run 8 (cCons (cVar 0) (cCons (cP (.int 3)) cNil)))) (gN 1))
    sNil)
  (sSeq (sAsg (cCallF run 12 (cCons (cVar 0) (cCons (cVar 1) (cCons (cRo (cLst (cCons (cP (.str "num")) cNil))) cNil)))) (gN 3))
  (sSeq (sAsg (cCall run 12 (cCons (cVar 0) (cCons (cP (.int 26)) (cCons (cRo (cLst cNil)) cNil)))) (gN 4))
  (sSeq (sAsg (cTr (cLst cNil)) (gN 5))
  (sSeq (sFor (cRng1 (cVar 1)) (gN 6)
    (sSeq (sAsg (cTr (cLst cNil)) (gN 7))
  (sSeq (sAsg (c2 gIx (cRo (cLst (cCons (c2 gAdd (cVar 3) (cRo (cLst (cCons (cP (.str "num")) (cCons (cP (.str "num")) cNil))))) (cCons (c2 gAdd (cSl (cVar 3) (cOSome (c2 gAdd (cVar 6) (cP (.int 1)))) cONone) (cRo (cLst (cCons (cP (.str "num")) cNil)))) cNil)))) (c1 gIntOf (cCons (cVar 2) cNil))) (gN 8))
  (sSeq (sAsg (c1 gMin (cCons (c2 gIx (cRo (cLst (cCons (cP (.int 1)) (cCons (cP (.int 2)) (cCons (cP (.int 2)) (cCons (cP (.int 3)) (cCons (cP (.int 3)) (cCons (cP (.int 2)) (cCons (cP (.int 4)) (cCons (cP (.int 6)) cNil)))))))))) (cCallF run 8 (cCons (cVar 0) (cCons (cP (.int 8)) cNil)))) (cCons (c2 gSub (c2 gAdd (c2 gAdd (c1 gLen (cCons (cVar 4) cNil)) (cVar 6)) (cP (.int 1))) (cVar 1)) cNil))) (gN 9))
  (sSeq (sFor (cRng1 (cVar 9)) (gN 10)
    (sSeq (sAsg (c2 gIx (cRo (cLst (cCons (cP (.int 0)) (cCons (cP (.int 0)) (cCons (cP (.int 1)) (cCons (cP (.int 1)) (cCons (cP (.int 2)) (cCons (cP (.int 2)) (cCons (cP (.int 3)) (cCons (cP (.int 4)) cNil)))))))))) (cCallF run 8 (cCons (cVar 0) (cCons (cP (.int 8)) cNil)))) (gN 11))
  (sSeq (sAsg (cRo (cComp (cRng1 (cVar 11)) (gN 14) cYes (c2 gIx (cVar 8) (cCallF run 8 (cCons (cVar 0) (cCons (c1 gLen (cCons (cVar 8) cNil)) cNil)))) [14])) (gN 12))
  (sSeq (sIf (cTru (cVar 2))
    (sAsg (c2 gAdd (cSl (cVar 12) cONone (cOSome (cP (.int 3)))) (cSl (cVar 8) cONone (cOSome (cP (.int 1))))) (gN 12))
    sNil)
  (sDrop (cM "list" gAppend (cVar 7) (cCons (cTup (cCons (cM "list" gPopAt (cVar 4) (cCons (cP (.int 0)) cNil)) (cCons (c1 gTuple (cCons (cVar 12) cNil)) cNil))) cNil)))))))
  (sDrop (cM "list" gAppend (cVar 5) (cCons (cTup (cCons (c2 gIx (cVar 3) (cVar 6)) (cCons (c1 gTuple (cCons (cVar 7) cNil)) cNil))) cNil))))))))
  (sSeq (sAsg (cCallF run 8 (cCons (cVar 0) (cCons (cVar 1) cNil))) (gN 13))
  (sRet (c1 gTuple (cCons (c2 gAdd (cSl (cVar 5) (cOSome (cVar 13)) cONone) (cSl (cVar 5) cONone (cOSome (cVar 13)))) cNil)))))))))))
/-- _law_is_value(book, kind, thing): book=0 kind=1 thing=2 name=3 makes=4 make=5 fields=6 some=7 one=8 part=9 -/
def b_law_is_value (run : Run) : CS :=
  (sSeq (sIf (cT (c2 (gEqB false) (cVar 1) (cP (.str "num"))))
    (sRet (cAndV (cIsi "int" (cVar 2)) (cNotV (cIsi "bool" (cVar 2)))))
    sNil)
  (sSeq (sIf (cOr (cNot (cTru (cIsi "tuple" (cVar 2)))) (cT (c2 (gEqB false) (c1 gLen (cCons (cVar 2) cNil)) (cP (.int 0)))))
    (sRet (cP (.bl false)))
    sNil)
  (sSeq (sFor (cIt (cVar 0)) (gTp 2 (gsCons (gN 3) (gsCons (gN 4) gsNil)))
    (sFor (cIt (cVar 4)) (gTp 2 (gsCons (gN 5) (gsCons (gN 6) gsNil)))
    (sIf (cAnd (cT (c2 (gEqB false) (cVar 3) (cVar 1))) (cAnd (cT (c2 (gEqB false) (cVar 5) (c2 gIx (cVar 2) (cP (.int 0))))) (cT (c2 (gEqB false) (c1 gLen (cCons (cVar 2) cNil)) (c2 gAdd (c1 gLen (cCons (cVar 6) cNil)) (cP (.int 1)))))))
    (sSeq (sAsg (cRo (nZip (cVar 6) (cSl (cVar 2) (cOSome (cP (.int 1))) cONone))) (gN 7))
  (sRet (c1 gAll (cCons (cRo (cComp (cIt (cVar 7)) (gTp 2 (gsCons (gN 8) (gsCons (gN 9) gsNil))) cYes (cCallF run 14 (cCons (cVar 0) (cCons (cVar 8) (cCons (cVar 9) cNil)))) [8, 9])) cNil))))
    sNil)))
  (sRet (cP (.bl false))))))
/-- law(script): script=0 cell=1 book=2 alive=3 kind=4 makes=5 come=6 make=7 ends=8 row=9 field=10 -/
def b_law (run : Run) : CS :=
  (sSeq (sFor (cIt (cCallF run 9 (cCons (cVar 0) (cCons (c1 gMin (cCons (c1 gMax (cCons (cP (.int 1)) (cCons (c1 gLen (cCons (cVar 0) cNil)) cNil))) (cCons (cP (.int 3)) cNil))) cNil)))) (gN 1)
    (sSeq (sAsg (cCallF run 13 (cCons (cCall run 7 (cCons (cVar 1) cNil)) cNil)) (gN 2))
  (sSeq (sAsg (c2 gAdd (cRo (cLst (cCons (cP (.str "num")) cNil))) (cRo (cComp (cIt (cVar 2)) (gN 9) (cT (c2 (gIsB false) (cCallF run 3 (cCons (cVar 2) (cCons (c2 gIx (cVar 9) (cP (.int 0))) cNil))) (cP (.bl true)))) (c2 gIx (cVar 9) (cP (.int 0))) [9]))) (gN 3))
  (sSeq (sIf (cT (c2 (gIsB true) (cCallF run 3 (cCons (cVar 2) (cCons (cP (.str "num")) cNil))) (cP (.bl true))))
    (sRet (cP (.bl false)))
    sNil)
  (sFor (cIt (cVar 2)) (gTp 2 (gsCons (gN 4) (gsCons (gN 5) gsNil)))
    (sSeq (sAsg (c1 gListR (cCons (cCallF run 6 (cCons (cVar 2) (cCons (cVar 4) cNil))) cNil)) (gN 6))
  (sSeq (sFor (cIt (cVar 5)) (gN 7)
    (sSeq (sAsg (c1 gAll (cCons (cRo (cComp (cIt (c2 gIx (cVar 7) (cP (.int 1)))) (gN 10) cYes (c2 (gInB false) (cVar 10) (cVar 3)) [10])) cNil)) (gN 8))
  (sIf (cOr (cT (c2 (gEqB true) (cVar 8) (c2 (gInB false) (cVar 7) (cVar 6)))) (cAnd (cTru (cVar 8)) (cT (c2 (gInB true) (cVar 4) (cVar 3)))))
    (sRet (cP (.bl false)))
    sNil)))
  (sIf (cAnd (cT (c2 (gInB false) (cVar 4) (cVar 3))) (cNot (cTru (cCallF run 14 (cCons (cVar 2) (cCons (cVar 4) (cCons (cCallF run 4 (cCons (cVar 2) (cCons (cVar 4) cNil))) cNil)))))))
    (sRet (cP (.bl false)))
    sNil))))))))
  (sRet (cP (.bl true))))
def f0 : Fd := ⟨"first_made", ["makes", "known"], ["makes", "known", "make", "fields", "field"], b_first_made⟩
def f1 : Fd := ⟨"next_round", ["book", "known"], ["book", "known", "fresh", "kind", "makes", "value"], b_next_round⟩
def f2 : Fd := ⟨"plain_values", ["book"], ["book", "known", "fresh"], b_plain_values⟩
def f3 : Fd := ⟨"has_values", ["book", "kind"], ["book", "kind"], b_has_values⟩
def f4 : Fd := ⟨"plain_value", ["book", "kind"], ["book", "kind"], b_plain_value⟩
def f5 : Fd := ⟨"all_makes", ["book", "kind"], ["book", "kind", "name", "makes"], b_all_makes⟩
def f6 : Fd := ⟨"makes_of", ["book", "kind"], ["book", "kind", "known", "make", "field"], b_makes_of⟩
def f7 : Fd := ⟨"_law_pool", ["cell"], ["cell"], b_law_pool⟩
def f8 : Fd := ⟨"_law_next", ["pool", "base"], ["pool", "base", "digit", "near", "stir"], b_law_next⟩
def f9 : Fd := ⟨"_law_cells", ["script", "many"], ["script", "many", "found", "k"], b_law_cells⟩
def f10 : Fd := ⟨"_law_spelt", ["number", "size"], ["number", "size", "letters", "name", "k"], b_law_spelt⟩
def f11 : Fd := ⟨"_law_any_name", ["pool", "taken"], ["pool", "taken", "size", "number", "turn"], b_law_any_name⟩
def f12 : Fd := ⟨"_law_names", ["pool", "many", "taken"], ["pool", "many", "taken", "found", "size", "k", "base", "at", "first", "tails", "name"], b_law_names⟩
def f13 : Fd := ⟨"_law_book", ["pool"], ["pool", "many", "chain", "kinds", "makes", "book", "at", "some", "among", "count", "k", "size", "fields", "first", "place"], b_law_book⟩
def f14 : Fd := ⟨"_law_is_value", ["book", "kind", "thing"], ["book", "kind", "thing", "name", "makes", "make", "fields", "some", "one", "part"], b_law_is_value⟩
def f15 : Fd := ⟨"law", ["script"], ["script", "cell", "book", "alive", "kind", "makes", "come", "make", "ends", "row", "field"], b_law⟩
def T : List Fd := [f0, f1, f2, f3, f4, f5, f6, f7, f8, f9, f10, f11, f12, f13, f14, f15]
end K07
set_option Elab.async false
set_option linter.all false
set_option maxRecDepth 100000
set_option maxHeartbeats 4000000
namespace K07
open Cw L2 Gn
open PySem hiding Run

theorem turnE {g : CG} {body : CS} {x : P} {ρ ρ1 : Ev} {S S1 : Sto} {Q : Fl → Sto → Prop} (e : g (.p x) ρ S = .ok ρ1 S1) (h : Nd (body ρ1 S1) Q) : Nd (turnF g body x ρ S) Q := by
  unfold turnF
  rw [e]
  exact h
def ValV (d : Nat) (run : Run) (i : Nat) : Prop := ∀ (S : Sto) (b : List Kd) (z : Str) (v : P), BookOk b → VT b d z v → run i [.p (encB b), .p (.str z), .p v] S = .ok (.p (.bl true)) S
abbrev eV (b : List Kd) (z : Str) (v : P) (w3 w4 w5 w6 w7 w8 w9 : Option D) : Ev := [some (.p (encB b)), some (.p (.str z)), some (.p v), w3, w4, w5, w6, w7, w8, w9]
theorem zip_fields (fs : List Str) (ys : List P) : zipP (fs.map P.str) ys = (fs.zip ys).map fun q => P.tup [.str q.1, q.2] := by
  unfold zipP
  induction fs generalizing ys with
  | nil => rfl
  | cons f r ih =>
    cases ys with
    | nil => rfl
    | cons y t => rw [List.map_cons, List.zipWith_cons_cons, List.zip_cons_cons, List.map_cons, ih t]
theorem sl_tail (x : P) (ys : List P) (S : Sto) : gSl (.p (.tup (x :: ys))) (some 1) none S = .ok (.p (.tup ys)) S := by
  show R.ok (Cw.D.p (P.tup (cutP (x :: ys) (some 1) none))) S = _
  have : cutP (x :: ys) (some ((1 : Nat) : Int)) none = ys := by
    unfold cutP
    rw [HT.sIx_nat, HT.sIx_none, Nat.min_eq_left (by simp), List.take_of_length_le (by simp)]
    rfl
  rw [show (some (1 : Int)) = some ((1 : Nat) : Int) from rfl, this]
theorem body_is_value (run : Run) (d : Nat) {b : List Kd} (hb : BookOk b) (hih : ∀ d', d = d' + 1 → ValV d' run 14) {z : Str} {v : P} (hv : VT b d z v) (S : Sto) :
    Nd (b_law_is_value run (eV b z v none none none none none none none) S) fun f S' => f = .rt (.p (.bl true)) ∧ S' = S := by
  have leaf : (z = num ∧ ∃ i : Int, v = .int i) → Nd (b_law_is_value run (eV b z v none none none none none none none) S) fun f S' => f = .rt (.p (.bl true)) ∧ S' = S := fun ⟨hz, i, he⟩ => by
    subst hz he
    refine seqT (S' := S) (by simp only [xT, x2, xVar0, xVarS, xP, bind_okE, vEqS]; rfl) ?_
    exact seqRetE (d := .p (.bl true)) (S' := S) rfl ⟨rfl, rfl⟩
  cases d with
  | zero => exact leaf hv
  | succ d =>
    rcases hv with q | ⟨hz, m, hm, ys, rfl, hall⟩
    · exact leaf q
    have hih := hih d rfl
    have hz' : ¬ z = ("num" : Str) := hz
    refine seqF (S' := S) (by simp only [xT, x2, xVar0, xVarS, xP, bind_okE, vEqS, hz', decide_false, xbT]) (seqNil ?_)
    have hyl := hall.length
    have h0 : ¬ ((ys.length : Int) + 1 = 0) := by omega
    have t1 : ∀ (w3 w4 w5 w6 w7 w8 w9 : Option D), cNot (cTru (cIsi "tuple" (cVar 2))) (eV b z (.tup (.str m.1 :: ys)) w3 w4 w5 w6 w7 w8 w9) S = .ok false S := fun _ _ _ _ _ _ _ => rfl
    refine seqF (S' := S) (by
      rw [xOr, t1, bind_okE, if_neg (by simp)]
      simp only [xT, x2, x1, xCons, xNil, xP, xVar0, xVarS, bind_okE, vLenTup, List.length_cons, vEqI]
      rw [decide_eq_false (by omega)]; rfl) (seqNil ?_)
    have i0 : ∀ S, gIx (.p (.tup (.str m.1 :: ys))) (.p (.int 0)) S = .ok (.p (.str m.1)) S := fun S => vIxT S (by omega) rfl
    obtain ⟨k, hkb, hkz, hmk⟩ : ∃ k ∈ b, k.1 = z ∧ m ∈ k.2 := by
      unfold mkOf at hm
      split at hm
      · rename_i k hk
        have h2 := List.find?_some hk
        exact ⟨k, List.mem_of_find?_eq_some hk, of_decide_eq_true h2, hm⟩
      · cases hm
    have hmn : (k.2.map (·.1)).Nodup := by
      have h := hb.mn
      obtain ⟨p1, p2, e⟩ := List.append_of_mem hkb
      rw [e, List.flatMap_append, List.flatMap_cons] at h
      exact (List.nodup_append.mp (List.nodup_append.mp h).2.1).1
    have h4 : m.2.length ≤ 4 := hb.fl k hkb m hmk
    refine forS (enc := encK) (l := b) (S' := S) rfl (fun pre ρ S' => S' = S ∧ (∀ y ∈ pre, y.1 ≠ z) ∧ ∃ w3 w4 w5 w6, ρ = eV b z (.tup (.str m.1 :: ys)) w3 w4 w5 w6 none none none) ⟨rfl, by simp, _, _, _, _, rfl⟩ ?_ ?_
    · rintro pre k2 post ρ S' hl ⟨rfl, hpre, w3, w4, w5, w6, rfl⟩
      have hk2 : k2 ∈ b := by rw [hl]; simp
      refine turnE (ρ1 := eV b z (.tup (.str m.1 :: ys)) (some (.p (.str k2.1))) (some (.p (.tup (k2.2.map encM)))) w5 w6 none none none) rfl ?_
      rw [xFor, show cIt (cVar 4) (eV b z (.tup (.str m.1 :: ys)) (some (.p (.str k2.1))) (some (.p (.tup (k2.2.map encM)))) w5 w6 none none none) S' = .ok (k2.2.map encM, none) S' from rfl, bind_okE]
      refine forE1 (fun (pr : List Mk) ρ S'' => S'' = S' ∧ (∀ c ∈ pr, ¬ (k2.1 = z ∧ c.1 = m.1)) ∧ ∃ w5 w6, ρ = eV b z (.tup (.str m.1 :: ys)) (some (.p (.str k2.1))) (some (.p (.tup (k2.2.map encM)))) w5 w6 none none none) ⟨rfl, by simp, _, _, rfl⟩ ?_ ?_
      · rintro pr c pst ρ S'' hl2 ⟨rfl, hpr, w5, w6, rfl⟩
        have hc : c ∈ k2.2 := by rw [hl2]; simp
        refine turnE (ρ1 := eV b z (.tup (.str m.1 :: ys)) (some (.p (.str k2.1))) (some (.p (.tup (k2.2.map encM)))) (some (.p (.str c.1))) (some (.p (.tup (c.2.map .str)))) none none none) rfl ?_
        have tst : cAnd (cT (c2 (gEqB false) (cVar 3) (cVar 1))) (cAnd (cT (c2 (gEqB false) (cVar 5) (c2 gIx (cVar 2) (cP (.int 0))))) (cT (c2 (gEqB false) (c1 gLen (cCons (cVar 2) cNil)) (c2 gAdd (c1 gLen (cCons (cVar 6) cNil)) (cP (.int 1)))))) (eV b z (.tup (.str m.1 :: ys)) (some (.p (.str k2.1))) (some (.p (.tup (k2.2.map encM)))) (some (.p (.str c.1))) (some (.p (.tup (c.2.map .str)))) none none none) S'' = .ok (decide (k2.1 = z) && (decide (c.1 = m.1) && decide (((ys.length + 1 : Nat) : Int) = (c.2.length : Int) + 1))) S'' := by
          rw [xAnd, xT]
          simp only [x2, xVar0, xVarS, bind_okE, vEqS, xbT]
          cases decide (k2.1 = z) with
          | false => rfl
          | true =>
            rw [if_pos rfl, xAnd, xT]
            simp only [x2, xVar0, xVarS, xP, bind_okE, i0, vEqS, xbT]
            cases decide (c.1 = m.1) with
            | false => rfl
            | true =>
              rw [if_pos rfl]
              simp only [xT, x2, x1, xCons, xNil, xP, xVar0, xVarS, bind_okE, vLenTup, List.length_cons, List.length_map, vAdd, vEqI, xbT]
              rfl
        by_cases hq : k2.1 = z ∧ c.1 = m.1
        · obtain ⟨q1, q2⟩ := hq
          have e1 : k2 = k := kind_one hb hk2 hkb (by rw [q1, hkz])
          subst e1
          have e2 : c = m := by
            obtain ⟨i, hi, f1⟩ := List.mem_iff_getElem.mp hc
            obtain ⟨j, hj, f2⟩ := List.mem_iff_getElem.mp hmk
            have := (List.getElem_inj hmn (h₀ := by rw [List.length_map]; exact hi) (h₁ := by rw [List.length_map]; exact hj)).mp (by rw [List.getElem_map, List.getElem_map, f1, f2, q2])
            subst this
            rw [← f1, f2]
          subst e2
          refine (ifT (tst.trans (by rw [decide_eq_true q1, decide_eq_true rfl, decide_eq_true (by omega)]; rfl)) ?_ : Nd _ fun f S' => (∃ ρ', f = .nx ρ' ∧ _) ∨ ∃ d, f = .rt d ∧ _)
          have ez : cRo (nZip (cVar 6) (cSl (cVar 2) (cOSome (cP (.int 1))) cONone)) (eV b z (.tup (.str c.1 :: ys)) (some (.p (.str k2.1))) (some (.p (.tup (k2.2.map encM)))) (some (.p (.str c.1))) (some (.p (.tup (c.2.map .str)))) none none none) S'' = .ok (.p (.ro ((c.2.zip ys).map fun q => P.tup [.str q.1, q.2]))) S'' := by
            simp only [xRo, xnZip, xSl, xOSome, xONone, xP, xVar0, xVarS, bind_okE, sl_tail, seqXP, if_true, zip_fields]
          refine asgE ez ?_
          simp only [List.set_cons_zero, List.set_cons_succ]
          have ea := allM (it := cIt (cVar 7)) (g := gTp 2 (gsCons (gN 8) (gsCons (gN 9) gsNil))) (e := cCallF run 14 (cCons (cVar 0) (cCons (cVar 8) (cCons (cVar 9) cNil)))) (vs := [8, 9]) (ρ := eV b z (.tup (.str c.1 :: ys)) (some (.p (.str k2.1))) (some (.p (.tup (k2.2.map encM)))) (some (.p (.str c.1))) (some (.p (.tup (c.2.map .str)))) (some (.p (.ro ((c.2.zip ys).map fun q => P.tup [.str q.1, q.2])))) none none) (S := S'') (enc := fun q : Str × P => P.tup [.str q.1, q.2]) (l := c.2.zip ys) (fun _ => true) rfl (by rw [List.length_zip]; omega) fun q hqq => ⟨_, rfl, by
            have := hih S'' b q.1 q.2 hb (hall.zip q hqq)
            simp only [wipeE, List.set_cons_zero, List.set_cons_succ, xCallF, xCons, xNil, xVar0, xVarS, bind_okE, this, xfrz_p]⟩
          refine retE (d := .p (.bl true)) (S' := S'') (ea.trans (by rw [List.all_eq_true.mpr fun _ _ => rfl])) (.inr ⟨_, rfl, .inr ⟨_, rfl, rfl, rfl⟩⟩)
        · refine ifF (tst.trans ?_) (.ok (.inl ⟨_, rfl, rfl, ?_, _, _, rfl⟩))
          · by_cases q1 : k2.1 = z
            · have q2 : ¬ c.1 = m.1 := fun h => hq ⟨q1, h⟩
              rw [decide_eq_true q1, decide_eq_false q2]; rfl
            · rw [decide_eq_false q1]; rfl
          · intro y hy
            rcases List.mem_append.mp hy with p | p
            · exact hpr y p
            · rw [List.mem_singleton] at p; rw [p]; exact hq
      · rintro ρ S'' ⟨rfl, hpr, w5, w6, rfl⟩
        refine .inl ⟨_, rfl, rfl, fun y hy => ?_, _, _, _, _, rfl⟩
        rcases List.mem_append.mp hy with p | p
        · exact hpre y p
        · rw [List.mem_singleton] at p
          subst p
          intro e
          have e1 : y = k := kind_one hb hk2 hkb (by rw [e, hkz])
          subst e1
          exact hpr m hmk ⟨e, rfl⟩
    · rintro ρ S' ⟨rfl, hpre, w3, w4, w5, w6, rfl⟩
      exact absurd hkz (hpre k hkb)
end K07
set_option Elab.async false
set_option linter.all false
set_option maxRecDepth 100000
set_option maxHeartbeats 4000000
namespace K07
open Cw L2 Gn
open PySem hiding Run
variable (k : Nat)
theorem next_run : NextOk (runT T (k + 1)) 8 := fun n base S l hS hl h0 h1 => by
  obtain ⟨d, l', e, r⟩ := Gn.body_next (iN := 8) (iS := 10) (iA := 11) (iM := 12) (runT T k) hS hl h0 h1
  refine ⟨d, l', ?_, r⟩
  rw [runS (fd := f8) rfl rfl, show f8.B = Gn.b_law_next 8 10 11 12 from rfl, show startE f8.N.length [.ref n, .p (.int base)] = [some (.ref n), some (.p (.int base)), none, none, none] from rfl, e]
  simp only [xleave_rt, xtell_p, take_set]
theorem pool_run (c : Int) (S : Sto) : ∃ l, runT T (k + 1) 7 [.p (.int c)] S = .ok (.ref S.length) (S ++ [.lst l]) ∧ PoolOk l := by
  obtain ⟨l, e, r⟩ := Gn.body_pool (iN := 8) (iS := 10) (iA := 11) (iM := 12) (runT T k) c S
  refine ⟨l, ?_, r⟩
  rw [runS (fd := f7) rfl rfl, show f7.B = Gn.b_law_pool 8 10 11 12 from rfl, show startE f7.N.length [.p (.int c)] = [some (.p (.int c))] from rfl, e, xleave_rt]
  exact tell_new rfl
theorem spelt_run : SpeltOk (runT T (k + 1)) 10 := fun n m S h => by
  obtain ⟨f, S', e, rfl, rfl⟩ := Gn.body_spelt (iN := 8) (iS := 10) (iA := 11) (iM := 12) (runT T k) n m S h
  rw [runS (fd := f10) rfl rfl, show f10.B = Gn.b_law_spelt 8 10 11 12 from rfl, show startE f10.N.length [.p (.int n), .p (.int m)] = [some (.p (.int n)), some (.p (.int m)), none, none, none] from rfl, e]
  simp only [xleave_rt, xtell_p, take_self]
theorem any_run : AnyOk (runT T (k + 2)) 11 := fun S n l G taken hn hl ht => by
  obtain ⟨f, S', e, w, l', rfl, rfl, r⟩ := Gn.body_any (iN := 8) (iS := 10) (iA := 11) (iM := 12) (runT T (k + 1)) (next_run k) (spelt_run k) hn hl G taken ht
  refine ⟨w, l', ?_, r⟩
  rw [runS (fd := f11) rfl rfl, show f11.B = Gn.b_law_any_name 8 10 11 12 from rfl, show startE f11.N.length [.ref n, .p (.ro (taken.map .str))] = [some (.ref n), some (.p (.ro (taken.map .str))), none, none, none] from rfl, e]
  simp only [xleave_rt, xtell_p]
  have : (St S n l G).length = (St S n l' G).length := by rw [St_len, St_len]
  rw [this, take_self]
theorem names_run : NamesOk (runT T (k + 3)) 12 := fun S n l G m taken hn hl hm ht => by
  obtain ⟨f, S', e, ws, l', rfl, rfl, r⟩ := Gn.body_names (iN := 8) (iS := 10) (iA := 11) (iM := 12) (runT T (k + 2)) (next_run (k + 1)) (spelt_run (k + 1)) (any_run k) hn hl G m taken hm ht
  refine ⟨ws, l', ?_, r⟩
  rw [runS (fd := f12) rfl rfl, show f12.B = Gn.b_law_names 8 10 11 12 from rfl, show startE f12.N.length [.ref n, .p (.int m), .p (.ro (taken.map .str))] = [some (.ref n), some (.p (.int m)), some (.p (.ro (taken.map .str))), none, none, none, none, none, none, none, none] from rfl, e, xleave_rt]
  have h1 : (St S n l G).length = (St S n l' G).length := by rw [St_len, St_len]
  have h2 : S.length + G.length = (St S n l' G).length := by rw [St_len]
  rw [h1, h2, ← St_app]
  exact tell_new rfl
theorem book_run (S : Sto) (n : Nat) (l : List P) (hn : n < S.length) (hl : PoolOk l) : ∃ (b : List Kd) (l' : List P), runT T (k + 4) 13 [.ref n] (St S n l []) = .ok (.p (encB b)) (S.set n (.lst l')) ∧ BookOk b := by
  obtain ⟨f, S', e, b, l', G, rfl, rfl, r⟩ := Gn.body_book (iN := 8) (iS := 10) (iA := 11) (iM := 12) (runT T (k + 3)) (next_run (k + 2)) (names_run k) hn hl
  refine ⟨b, l', ?_, r⟩
  rw [runS (fd := f13) rfl rfl, show f13.B = Gn.b_law_book 8 10 11 12 from rfl, show startE f13.N.length [.ref n] = [some (.ref n), none, none, none, none, none, none, none, none, none, none, none, none, none, none] from rfl, e]
  simp only [xleave_rt, xtell_p]
  have : (St S n l []).length = S.length := by rw [St_len]; rfl
  rw [this, St_take]
theorem cells_run (ns : List Int) (m : Nat) (S : Sto) (h : ns.length ≤ 63) (h1 : 1 ≤ m) (h2 : m ≤ 6) : ∃ cs : List Int, runT T (k + 1) 9 [.p (.scr (ns.map .int)), .p (.int m)] S = .ok (.ref S.length) (S ++ [.lst (cs.map .int)]) := by
  obtain ⟨f, S', e, rfl, cs, rfl, r⟩ := Gn.body_cells (iN := 8) (iS := 10) (iA := 11) (iM := 12) (runT T k) ns m S h h1 h2
  refine ⟨cs, ?_⟩
  rw [runS (fd := f9) rfl rfl, show f9.B = Gn.b_law_cells 8 10 11 12 from rfl, show startE f9.N.length [.p (.scr (ns.map .int)), .p (.int m)] = [some (.p (.scr (ns.map .int))), some (.p (.int m)), none, none] from rfl, e, xleave_rt]
  exact tell_new rfl
theorem first_run : FirstV (runT T (k + 1)) 0 := fun S n kvs ks ms hS hk h4 => by
  obtain ⟨f, S', e, rfl, rfl⟩ := Gn.body_made (iD := 0) (runT T k) (S := S) (y := .ref n) (dic_ref hS) hk ms h4
  rw [runS (fd := f0) rfl rfl, show f0.B = Gn.b_law_made 0 from rfl, show startE f0.N.length [.p (.tup (ms.map encM)), .ref n] = [some (.p (.tup (ms.map encM))), some (.ref n), none, none, none] from rfl, e]
  simp only [xleave_rt, xtell_p, take_self]
theorem round_run : RoundV (runT T (k + 2)) 1 := fun S n kvs ks b hS hk hb => by
  obtain ⟨f, S', e, fr, rfl, rfl, r⟩ := Gn.body_roundV (iF := 0) (iR := 1) (iP := 2) (iL := 5) (runT T (k + 1)) (first_run k) hS hk b hb
  refine ⟨fr, ?_, r⟩
  rw [runS (fd := f1) rfl rfl, show f1.B = Gn.b_next_round 0 1 2 5 from rfl, show startE f1.N.length [.p (encB b), .ref n] = [some (.p (encB b)), some (.ref n), none, none, none, none] from rfl, e, xleave_rt]
  exact tell_atD (Nat.le_refl _) get_new
theorem plain_run : PlainV (runT T (k + 3)) 2 := fun S b hb => by
  obtain ⟨f, S', e, kvs, ks, rfl, rfl, r1, r2, r3, r4⟩ := Gn.body_plainV (iF := 0) (iR := 1) (iP := 2) (iL := 5) (runT T (k + 2)) (round_run k) (S := S) b hb
  refine ⟨kvs, ks, ?_, r1, r2, fun z hz => ?_⟩
  · rw [runS (fd := f2) rfl rfl, show f2.B = Gn.b_plain_values 0 1 2 5 from rfl, show startE f2.N.length [.p (encB b)] = [some (.p (encB b)), none, none] from rfl, e, xleave_rt]
    exact tell_atD (Nat.le_refl _) get_new
  · obtain ⟨D, hD, h⟩ := r3
    obtain ⟨v, h1, h2⟩ := h z hz
    exact ⟨v, h1, h2.mono (by omega)⟩
theorem has_run (b : List Kd) (z : Str) (S : Sto) (hb : BookOk b) : runT T (k + 4) 3 [.p (encB b), .p (.str z)] S = .ok (.p (.bl (al b z))) S := by
  rw [runS (fd := f3) rfl rfl, show f3.B = Gn.b_has_values 0 1 2 5 from rfl, show startE f3.N.length [.p (encB b), .p (.str z)] = [some (.p (encB b)), some (.p (.str z))] from rfl, Gn.body_has (iF := 0) (iR := 1) (iP := 2) (iL := 5) (runT T (k + 3)) (plain_run k).ok b hb z]
  simp only [xleave_rt, xtell_p, take_self]
theorem value_run (b : List Kd) (z : Str) (S : Sto) (hb : BookOk b) (hz : Alive b z) : ∃ v, runT T (k + 4) 4 [.p (encB b), .p (.str z)] S = .ok (.p v) S ∧ VT b 6 z v := by
  obtain ⟨kvs, ks, e, hk, ha, hv⟩ := plain_run k S b hb
  obtain ⟨v, h1, h2⟩ := hv z ((ha z).mpr hz)
  refine ⟨v, ?_, h2⟩
  have ix : ∀ S, gIx (.p (.dic kvs)) (.p (.str z)) S = .ok (.p v) S := fun S => vIxDic S rfl h1
  have eb : b_plain_value (runT T (k + 3)) [some (.p (encB b)), some (.p (.str z))] S = .ok (.rt (.p v)) S := by
    simp only [b_plain_value, xRet, x2, xVar0, xVarS, bind_okE, xCallF, xCons, xNil, e, frz_newD, ix]
  rw [runS (fd := f4) rfl rfl, show f4.B = b_plain_value from rfl, show startE f4.N.length [.p (encB b), .p (.str z)] = [some (.p (encB b)), some (.p (.str z))] from rfl, eb]
  simp only [xleave_rt, xtell_p, take_self]
theorem all_run (S : Sto) (b : List Kd) (z : Str) : runT T (k + 1) 5 [.p (encB b), .p (.str z)] S = .ok (.p (.tup ((mkOf b z).map encM))) S := by
  obtain ⟨f, S', e, rfl, rfl⟩ := Gn.body_all (iF := 0) (iR := 1) (iP := 2) (iL := 5) (runT T k) (S := S) b z
  rw [runS (fd := f5) rfl rfl, show f5.B = Gn.b_all_makes 0 1 2 5 from rfl, show startE f5.N.length [.p (encB b), .p (.str z)] = [some (.p (encB b)), some (.p (.str z)), none, none] from rfl, e]
  simp only [xleave_rt, xtell_p, take_self]
theorem makes_run (b : List Kd) (z : Str) (S : Sto) (hb : BookOk b) : runT T (k + 4) 6 [.p (encB b), .p (.str z)] S = .ok (.p (.tup (((mkOf b z).filter fun m => m.2.all (al b)).map encM))) S := by
  rw [runS (fd := f6) rfl rfl, show f6.B = Gn.b_makes_of 0 1 2 5 from rfl, show startE f6.N.length [.p (encB b), .p (.str z)] = [some (.p (encB b)), some (.p (.str z)), none, none, none] from rfl, Gn.body_makes (iF := 0) (iR := 1) (iP := 2) (iL := 5) (runT T (k + 3)) (plain_run k).ok (fun S b z => all_run (k + 2) S b z) b hb z]
  simp only [xleave_rt, xtell_p, take_self]
theorem isv_run : ∀ (d k : Nat), d ≤ k → ValV d (runT T (k + 1)) 14
  | d, k, hk => fun S b z v hb hv => by
    obtain ⟨f, S', e, rfl, rfl⟩ := body_is_value (runT T k) d hb (fun d' e => by
      subst e
      obtain ⟨k, rfl⟩ : ∃ k', k = k' + 1 := ⟨k - 1, by omega⟩
      exact isv_run d' k (by omega)) hv S
    rw [runS (fd := f14) rfl rfl, show f14.B = b_law_is_value from rfl, show startE f14.N.length [.p (encB b), .p (.str z), .p v] = [some (.p (encB b)), some (.p (.str z)), some (.p v), none, none, none, none, none, none, none] from rfl, e]
    simp only [xleave_rt, xtell_p, take_self]
end K07
set_option Elab.async false
set_option linter.all false
set_option maxRecDepth 100000
set_option maxHeartbeats 4000000
namespace K07
open Cw L2 Gn
open PySem hiding Run

theorem dep_ms (ms : List Mk) : (P.ro (ms.map encM)).dep ≤ 64 := by
  have := deps_makes ms
  simp only [P.dep]; omega
noncomputable def aliveL (b : List Kd) : List Str := num :: (b.filter fun k => al b k.1).map (·.1)
theorem al_iff {b : List Kd} {z : Str} : al b z = true ↔ Alive b z := by unfold al; simp
theorem alive_in {b : List Kd} {z : Str} (hz : z = num ∨ z ∈ b.map (·.1)) : decide (z ∈ aliveL b) = al b z := by
  by_cases h : Alive b z
  · rw [al_iff.mpr h]
    refine decide_eq_true ?_
    rcases hz with rfl | hz
    · exact List.mem_cons_self
    · obtain ⟨k, hk, rfl⟩ := List.mem_map.mp hz
      exact List.mem_cons_of_mem _ (List.mem_map_of_mem (List.mem_filter.mpr ⟨hk, al_iff.mpr h⟩))
  · have hn : al b z = false := by
      cases e : al b z with
      | false => rfl
      | true => exact absurd (al_iff.mp e) h
    rw [hn]
    refine decide_eq_false fun q => ?_
    rcases List.mem_cons.mp q with rfl | q
    · exact h .base
    · obtain ⟨k, hk, rfl⟩ := List.mem_map.mp q
      have := (List.mem_filter.mp hk).2
      rw [hn] at this; cases this
abbrev eJ (ns : List Int) (c : Int) (b : List Kd) (w3 w4 w5 w6 w7 w8 w9 w10 : Option D) : Ev := [some (.p (.scr (ns.map .int))), some (.p (.int c)), some (.p (encB b)), w3, w4, w5, w6, w7, w8, w9, w10]
theorem kind_turn (run : Run) {b : List Kd} (hb : BookOk b) (hmakes : ∀ z S, run 6 [.p (encB b), .p (.str z)] S = .ok (.p (.tup (((mkOf b z).filter fun m => m.2.all (al b)).map encM))) S) (hval : ∀ z S, Alive b z → ∃ v, run 4 [.p (encB b), .p (.str z)] S = .ok (.p v) S ∧ VT b 6 z v) (hisv : ValV 6 run 14)
    (ns : List Int) (c : Int) {k : Kd} (hk : k ∈ b) (S : Sto) (w6 w7 w8 w9 w10 : Option D) :
    Nd ((sSeq (sAsg (c1 gListR (cCons (cCallF run 6 (cCons (cVar 2) (cCons (cVar 4) cNil))) cNil)) (gN 6))
  (sSeq (sFor (cIt (cVar 5)) (gN 7)
    (sSeq (sAsg (c1 gAll (cCons (cRo (cComp (cIt (c2 gIx (cVar 7) (cP (.int 1)))) (gN 10) cYes (c2 (gInB false) (cVar 10) (cVar 3)) [10])) cNil)) (gN 8))
  (sIf (cOr (cT (c2 (gEqB true) (cVar 8) (c2 (gInB false) (cVar 7) (cVar 6)))) (cAnd (cTru (cVar 8)) (cT (c2 (gInB true) (cVar 4) (cVar 3)))))
    (sRet (cP (.bl false)))
    sNil)))
  (sIf (cAnd (cT (c2 (gInB false) (cVar 4) (cVar 3))) (cNot (cTru (cCallF run 14 (cCons (cVar 2) (cCons (cVar 4) (cCons (cCallF run 4 (cCons (cVar 2) (cCons (cVar 4) cNil))) cNil)))))))
    (sRet (cP (.bl false)))
    sNil))) (eJ ns c b (some (.p (.ro ((aliveL b).map .str)))) (some (.p (.str k.1))) (some (.p (.tup (k.2.map encM)))) w6 w7 w8 w9 w10) S) fun f S' => ∃ w6 w7 w8 w9 w10, f = .nx (eJ ns c b (some (.p (.ro ((aliveL b).map .str)))) (some (.p (.str k.1))) (some (.p (.tup (k.2.map encM)))) w6 w7 w8 w9 w10) ∧ S' = S := by
  have hmk : mkOf b k.1 = k.2 := by
    unfold mkOf
    cases e : b.find? fun y => decide (y.1 = k.1) with
    | none => exact absurd (List.find?_eq_none.mp e k hk) (by simp)
    | some y =>
      have h1 := List.mem_of_find?_eq_some e
      have h2 := List.find?_some e
      rw [kind_one hb h1 hk (of_decide_eq_true h2)]
  have hkn : k.1 ∈ b.map (·.1) := names_mem hk
  have hmn : (k.2.map (·.1)).Nodup := by
    have h := hb.mn
    obtain ⟨p1, p2, e⟩ := List.append_of_mem hk
    rw [e, List.flatMap_append, List.flatMap_cons] at h
    exact (List.nodup_append.mp (List.nodup_append.mp h).2.1).1
  have em := hmakes k.1 S
  rw [hmk] at em
  refine asgE (d := .p (.ro ((k.2.filter fun m => m.2.all (al b)).map encM))) (S' := S) (by
    simp only [x1, xCallF, xCons, xNil, xVar0, xVarS, bind_okE, em, xfrz_p]; rfl) ?_
  simp only [List.set_cons_zero, List.set_cons_succ]
  have ain : ∀ S, gInB false (.p (.str k.1)) (.p (.ro ((aliveL b).map .str))) S = .ok (.p (.bl (al b k.1))) S := fun S => by
    rw [vInRo]
    simp only [Bool.false_eq_true, if_false, alive_in (.inr hkn)]
  have aout : ∀ S, gInB true (.p (.str k.1)) (.p (.ro ((aliveL b).map .str))) S = .ok (.p (.bl (!al b k.1))) S := fun S => by
    rw [vInRo]
    simp only [if_true, alive_in (.inr hkn)]
  refine forS (enc := encM) (l := k.2) (S' := S) rfl (fun _ ρ S' => S' = S ∧ ∃ w7 w8 w9 w10, ρ = eJ ns c b (some (.p (.ro ((aliveL b).map .str)))) (some (.p (.str k.1))) (some (.p (.tup (k.2.map encM)))) (some (.p (.ro ((k.2.filter fun m => m.2.all (al b)).map encM)))) w7 w8 w9 w10) ⟨rfl, _, _, _, _, rfl⟩ ?_ ?_
  · rintro pre m post ρ S' hl ⟨rfl, w7, w8, w9, w10, rfl⟩
    have hm : m ∈ k.2 := by rw [hl]; simp
    have h4 := hb.fl k hk m hm
    refine Nd.go (turnE (ρ1 := eJ ns c b (some (.p (.ro ((aliveL b).map .str)))) (some (.p (.str k.1))) (some (.p (.tup (k.2.map encM)))) (some (.p (.ro ((k.2.filter fun m => m.2.all (al b)).map encM)))) (some (.p (encM m))) w8 w9 w10) rfl ?_)
    have i1 : ∀ S, gIx (.p (encM m)) (.p (.int 1)) S = .ok (.p (.tup (m.2.map .str))) S := fun S => vIxT S (by omega) rfl
    refine asgE (d := .p (.bl (m.2.all (al b)))) (S' := S') (by
      rw [allM (enc := P.str) (l := m.2) (al b) (by simp only [xIt, x2, xVar0, xVarS, xP, bind_okE, i1]; rfl) (by omega) fun f hf => ⟨_, rfl, by
        simp only [wipeE, List.set_cons_zero, List.set_cons_succ, x2, xVar0, xVarS, bind_okE, vInRo, Bool.false_eq_true, if_false, alive_in (hb.ff k hk m hm f hf)]⟩]) ?_
    simp only [List.set_cons_zero, List.set_cons_succ]
    have hin : ∀ S, gInB false (.p (encM m)) (.p (.ro ((k.2.filter fun m => m.2.all (al b)).map encM))) S = .ok (.p (.bl (m.2.all (al b)))) S := fun S => vInCome hmn hm S
    refine ifF (S' := S') ?_ (.ok ⟨_, rfl, rfl, _, _, _, _, rfl⟩)
    rw [xOr, xT]
    simp only [x2, xVar0, xVarS, bind_okE, hin, vNeB, decide_true, Bool.not_true, xbT, Bool.false_eq_true, if_false]
    rw [xAnd, xTru]
    simp only [xVar0, xVarS, bind_okE, truD]
    cases hg : m.2.all (al b) with
    | false => rfl
    | true =>
      have : al b k.1 = true := al_iff.mpr (.made hk hm fun f hf => al_iff.mp (List.all_eq_true.mp hg f hf))
      simp only [bind_okE, if_true, xT, x2, xVar0, xVarS, aout, this, Bool.not_true, xbT]
  · rintro ρ S' ⟨rfl, w7, w8, w9, w10, rfl⟩
    refine ifF (S' := S') ?_ (.ok ⟨_, _, _, _, _, rfl, rfl⟩)
    rw [xAnd, xT]
    simp only [x2, xVar0, xVarS, bind_okE, ain, xbT]
    cases ha : al b k.1 with
    | false => rfl
    | true =>
      obtain ⟨v, ev, hv⟩ := hval k.1 S' (al_iff.mp ha)
      have es := hisv S' b k.1 v hb hv
      rw [if_pos rfl]
      simp only [xNot, xTru, xCallF, xCons, xNil, xVar0, xVarS, bind_okE, ev, xfrz_p, es]
      rfl
theorem body_law (run : Run) (hcells : ∀ (ns : List Int) (m : Nat) (S : Sto), ns.length ≤ 63 → 1 ≤ m → m ≤ 6 → ∃ cs : List Int, run 9 [.p (.scr (ns.map .int)), .p (.int m)] S = .ok (.ref S.length) (S ++ [.lst (cs.map .int)]))
    (hpool : ∀ (c : Int) (S : Sto), ∃ l, run 7 [.p (.int c)] S = .ok (.ref S.length) (S ++ [.lst l]) ∧ PoolOk l)
    (hbook : ∀ (S : Sto) (n : Nat) (l : List P), n < S.length → PoolOk l → ∃ (b : List Kd) (l' : List P), run 13 [.ref n] (St S n l []) = .ok (.p (encB b)) (S.set n (.lst l')) ∧ BookOk b)
    (hhas : ∀ (b : List Kd) (z : Str) (S : Sto), BookOk b → run 3 [.p (encB b), .p (.str z)] S = .ok (.p (.bl (al b z))) S)
    (hmakes : ∀ (b : List Kd) (z : Str) (S : Sto), BookOk b → run 6 [.p (encB b), .p (.str z)] S = .ok (.p (.tup (((mkOf b z).filter fun m => m.2.all (al b)).map encM))) S)
    (hval : ∀ (b : List Kd) (z : Str) (S : Sto), BookOk b → Alive b z → ∃ v, run 4 [.p (encB b), .p (.str z)] S = .ok (.p v) S ∧ VT b 6 z v) (hisv : ValV 6 run 14)
    (ns : List Int) (h : ns.length ≤ 63) (S : Sto) :
    Nd (b_law run [some (.p (.scr (ns.map .int))), none, none, none, none, none, none, none, none, none, none] S) fun f S' => f = .rt (.p (.bl true)) := by
  obtain ⟨m, hm1, hm2, hm⟩ : ∃ m : Nat, 1 ≤ m ∧ m ≤ 6 ∧ min (max 1 (ns.length : Int)) 3 = m := ⟨(min (max 1 (ns.length : Int)) 3).toNat, by omega, by omega, by omega⟩
  obtain ⟨cs, e1⟩ := hcells ns m S h hm1 hm2
  refine forS (enc := P.int) (l := cs) (S' := S) (by
    simp only [xIt, xCallF, xCons, xNil, xVar0, xVarS, x1, xP, bind_okE, vLenScr, List.length_map, vMax, vMin, hm, e1, frz_new, xIter_ro]) (fun pre ρ S' => ∃ (v1 v2 v3 v4 v5 v6 v7 v8 v9 v10 : Option D), ρ = [some (.p (.scr (ns.map .int))), v1, v2, v3, v4, v5, v6, v7, v8, v9, v10]) ⟨_, _, _, _, _, _, _, _, _, _, rfl⟩ ?_ ?_
  · rintro pre c post ρ S' hcs ⟨v1, v2, v3, v4, v5, v6, v7, v8, v9, v10, rfl⟩
    refine Nd.go (turnE rfl ?_)
    simp only [List.set_cons_zero, List.set_cons_succ]
    obtain ⟨l, e2, hl⟩ := hpool c S'
    obtain ⟨b, l', e3, hb⟩ := hbook (S' ++ [.lst l]) S'.length l (by simp) hl
    rw [← St_id get_new] at e3
    generalize (S' ++ [Ob.lst l]).set S'.length (.lst l') = S1 at e3
    refine asgE (d := .p (encB b)) (S' := S1) (by simp only [xCallF, xCall, xCons, xNil, xVar0, xVarS, bind_okE, e2, e3, xfrz_p]) ?_
    simp only [List.set_cons_zero, List.set_cons_succ]
    have h6 := hb.len
    have ec : cRo (cComp (cIt (cVar 2)) (gN 9) (cT (c2 (gIsB false) (cCallF run 3 (cCons (cVar 2) (cCons (c2 gIx (cVar 9) (cP (.int 0))) cNil))) (cP (.bl true)))) (c2 gIx (cVar 9) (cP (.int 0))) [9]) (eJ ns c b v3 v4 v5 v6 v7 v8 v9 v10) S1 = .ok (.p (.ro (((b.filter fun k => al b k.1).map (·.1)).map .str))) S1 := by
      rw [xRo, cmpF (enc := encK) (l := b) (fun k => al b k.1) (fun k => P.str k.1) rfl (by omega) fun k hk => by
        have i0 : ∀ S, gIx (.p (encK k)) (.p (.int 0)) S = .ok (.p (.str k.1)) S := fun S => vIxT S (by omega) rfl
        refine ⟨_, rfl, ?_, fun _ => ?_⟩
        · have := hhas b k.1 S1 hb
          simp only [wipeE, List.set_cons_zero, List.set_cons_succ, xT, x2, xCallF, xCons, xNil, xP, xVar0, xVarS, bind_okE, i0, this, xfrz_p, isB_b]
          cases al b k.1 <;> rfl
        · simp only [wipeE, List.set_cons_zero, List.set_cons_succ, x2, xP, xVar0, xVarS, bind_okE, i0], bind_okE, List.map_map]
      rfl
    refine asgE (d := .p (.ro ((aliveL b).map .str))) (S' := S1) (by
      rw [x2, show cRo (cLst (cCons (cP (.str ("num" : Str))) cNil)) (eJ ns c b v3 v4 v5 v6 v7 v8 v9 v10) S1 = .ok (.p (.ro [.str num])) S1 from rfl, bind_okE, ec, bind_okE]
      have hl2 : (b.filter fun k => al b k.1).length ≤ 6 := Nat.le_trans (List.length_filter_le _ _) h6
      rw [vAddRR (x := .p (.ro [.str num])) (xs := [.str num]) rfl rfl (by rw [List.length_map, List.length_map, List.length_singleton]; omega)]
      rfl) ?_
    simp only [List.set_cons_zero, List.set_cons_succ]
    have hn := hhas b num S1 hb
    have hnum : al b num = true := al_iff.mpr .base
    rw [hnum] at hn
    have hn : run 3 [.p (encB b), .p (.str ("num" : Str))] S1 = .ok (.p (.bl true)) S1 := hn
    refine seqF (S' := S1) (by simp only [xT, x2, xCallF, xCons, xNil, xP, xVar0, xVarS, bind_okE, hn, xfrz_p, isB_b]; rfl) (seqNil ?_)
    rw [xFor, show cIt (cVar 2) (eJ ns c b (some (.p (.ro ((aliveL b).map .str)))) v4 v5 v6 v7 v8 v9 v10) S1 = .ok (b.map encK, none) S1 from rfl, bind_okE]
    refine forE1 (fun (pr : List Kd) ρ S' => S' = S1 ∧ ∃ v4 v5 v6 v7 v8 v9 v10, ρ = eJ ns c b (some (.p (.ro ((aliveL b).map .str)))) v4 v5 v6 v7 v8 v9 v10) ⟨rfl, _, _, _, _, _, _, _, rfl⟩ ?_ ?_
    · rintro pr k pst ρ S' hl2 ⟨rfl, v4, v5, v6, v7, v8, v9, v10, rfl⟩
      refine Nd.go (turnE (ρ1 := eJ ns c b (some (.p (.ro ((aliveL b).map .str)))) (some (.p (.str k.1))) (some (.p (.tup (k.2.map encM)))) v6 v7 v8 v9 v10) rfl ?_)
      refine (kind_turn run hb (fun z S => hmakes b z S hb) (fun z S ha => hval b z S hb ha) hisv ns c (k := k) (by rw [hl2]; simp) S' v6 v7 v8 v9 v10).mono ?_
      rintro f S2 ⟨w6, w7, w8, w9, w10, rfl, rfl⟩
      exact ⟨_, rfl, rfl, _, _, _, _, _, _, _, rfl⟩
    · rintro ρ S' ⟨rfl, v4, v5, v6, v7, v8, v9, v10, rfl⟩
      exact ⟨_, rfl, _, _, _, _, _, _, _, _, _, _, rfl⟩
  · rintro ρ S' ⟨v1, v2, v3, v4, v5, v6, v7, v8, v9, v10, rfl⟩
    exact retE (d := .p (.bl true)) (S' := S') rfl rfl
theorem pure (ns : List Int) (h : ns.length ≤ 63) : runT T 40 15 [.p (.scr (ns.map .int))] [] = .ok (.p (.bl true)) [] := by
  obtain ⟨f, S', e, rfl⟩ := body_law (runT T 39) (fun ns m S => cells_run 38 ns m S) (fun c S => pool_run 38 c S) (fun S n l hn hl => book_run 35 S n l hn hl) (fun b z S => has_run 35 b z S) (fun b z S => makes_run 35 b z S) (fun b z S => value_run 35 b z S) (isv_run 6 38 (by omega)) ns h []
  rw [runS (fd := f15) rfl rfl]
  show leave 0 (b_law (runT T 39) _ _) = _
  rw [show startE f15.N.length [.p (.scr (ns.map .int))] = [some (.p (.scr (ns.map .int))), none, none, none, none, none, none, none, none, none, none] from rfl, e]
  simp only [xleave_rt, xtell_p, List.take_zero]
end K07
set_option Elab.async false
set_option linter.all false
set_option maxRecDepth 100000
set_option maxHeartbeats 4000000
/-! the derivations, the end -/
namespace K07
open PySem PySem.Spec PyProof.Rows Cw L2
def top (i : Nat) : Stmt := PySem.Challenge.pw_courtwide_k07_whole_a_value_or_no_end.main.body.getD i (.Pass ⟨0, 0, 0, 0⟩)
abbrev s0 : Stmt := top 2
abbrev s1 : Stmt := top 3
abbrev s2 : Stmt := top 4
abbrev s3 : Stmt := top 5
abbrev s4 : Stmt := top 6
abbrev s5 : Stmt := top 7
abbrev s6 : Stmt := top 8
abbrev s7 : Stmt := top 10
abbrev s8 : Stmt := top 11
abbrev s9 : Stmt := top 12
abbrev s10 : Stmt := top 13
abbrev s11 : Stmt := top 14
abbrev s12 : Stmt := top 15
abbrev s13 : Stmt := top 16
abbrev s14 : Stmt := top 17
abbrev s15 : Stmt := top 18
structure Gb (mg : Str → Option Value) : Prop where
  b_all : mg "all" = none
  b_tuple : mg "tuple" = none
  b_len : mg "len" = none
  b_max : mg "max" = none
  b_range : mg "range" = none
  b_min : mg "min" = none
  b_int : mg "int" = none
  b_list : mg "list" = none
  b_zip : mg "zip" = none
  b_isinstance : mg "isinstance" = none
  b_bool : mg "bool" = none
  c_NUM : ∃ t, mg "NUM" = some (.str "num" t)
section
variable {P : Program} {w : World} {K : PySem.W.Frag} {mg : Str → Option Value} {base : Heap} {f : Addr} {fd : FuncData}
theorem sc0 : FnScope f0.N f0.ps (defScope s0) := ⟨rfl, rfl, rfl, by decide +kernel, rfl, by decide +kernel, by decide +kernel⟩
theorem d0 (G : Gb mg) {k : Nat} {cdv : Value} {A : Around} {outer : List Env} {s : Shared} {H : Hp} {E : XK} (C : Ctx (cxOf CX0 P w K mg base f0.N "first_made" (defScope s0) f cdv A outer s H E).nox T k) :
    PSs (cxOf CX0 P w K mg base f0.N "first_made" (defScope s0) f cdv A outer s H E).nox (defBody s0) (RdS K (b_first_made (runT T k))) :=
  (by refine rs_cons (rs_for PassesOwn.never C.calm (ri_seq (re_var (pv 0))) (rg_tup C.calm (rgs_cons (rg_name (i := 2) sc0.nd rfl (by first | exact Or.inl rfl | exact Or.inr rfl)) (rgs_cons (rg_name (i := 3) sc0.nd rfl (by first | exact Or.inl rfl | exact Or.inr rfl)) rgs_nil))) (by exact rs_one (rs_if (rt_val (re_callB (w_all C.calm) rfl G.b_all bt_all (ra_cons (re_ro (rn_lc (own := [("field", 4)]) C.calm sc0.nd (ri_seq (re_var (pv 3))) (by kernel_rfl) (fun s0 H0 c0 cl0 fp0 => (rg_name (i := 4) sc0.nd rfl (by first | exact Or.inl rfl | exact Or.inr rfl))) (fun s0 H0 c0 cl0 fp0 => rts_nil) (fun s0 H0 c0 cl0 fp0 => (re_in (C.blk s0 H0 _ _ fp0).hu (re_var (pv 4)) (re_var (pv 1)))))) ra_nil))) (by exact rs_one (rs_ret (re_add (re_tup (ra_cons (re_var (pv 2)) ra_nil)) (re_callTy w_tuple rfl G.b_tuple bt_tuple (ra_cons (re_ro (rn_lc (own := [("field", 4)]) C.calm sc0.nd (ri_seq (re_var (pv 3))) (by kernel_rfl) (fun s0 H0 c0 cl0 fp0 => (rg_name (i := 4) sc0.nd rfl (by first | exact Or.inl rfl | exact Or.inr rfl))) (fun s0 H0 c0 cl0 fp0 => rts_nil) (fun s0 H0 c0 cl0 fp0 => (re_ix (C.blk s0 H0 _ _ fp0).hu (re_var (pv 1)) (re_var (pv 4)))))) ra_nil))))) rs_nil))) ?_; exact rs_one (rs_ret re_non))
theorem e0 (G : Gb mg) (F : Fun K "first_made" "first_made" s0 f fd) (hm : mg "first_made" = some (.ref f)) : Entry P w K mg base T 0 f0.name :=
  entry (D := f0) rfl F sc0 hm (fun _ _ _ _ _ _ us hl => match us, hl with | [_, _], _ => rfl) fun k cdv A outer s H E C => d0 G C
theorem sc1 : FnScope f1.N f1.ps (defScope s1) := ⟨rfl, rfl, rfl, by decide +kernel, rfl, by decide +kernel, by decide +kernel⟩
theorem d1 (G : Gb mg) {k : Nat} {cdv : Value} {A : Around} {outer : List Env} {s : Shared} {H : Hp} {E : XK} (C : Ctx (cxOf CX0 P w K mg base f1.N "next_round" (defScope s1) f cdv A outer s H E).nox T k) :
    PSs (cxOf CX0 P w K mg base f1.N "next_round" (defScope s1) f cdv A outer s H E).nox (defBody s1) (RdS K (b_next_round (runT T k))) :=
  (by refine rs_cons (rs_set (i := 2) sc1.nd rfl (by first | exact Or.inl rfl | exact Or.inr rfl) (re_dt rd_new)) ?_; refine rs_cons (rs_for PassesOwn.never C.calm (ri_seq (re_var (pv 0))) (rg_tup C.calm (rgs_cons (rg_name (i := 3) sc1.nd rfl (by first | exact Or.inl rfl | exact Or.inr rfl)) (rgs_cons (rg_name (i := 4) sc1.nd rfl (by first | exact Or.inl rfl | exact Or.inr rfl)) rgs_nil))) (by refine rs_cons (rs_set (i := 5) sc1.nd rfl (by first | exact Or.inl rfl | exact Or.inr rfl) (re_callF C 0 rfl rfl rfl (ra_cons (re_var (pv 4)) (ra_cons (re_var (pv 1)) ra_nil)))) ?_; exact rs_one (rs_if (PW.pt (rw_and (rt_nin C.hu (re_var (pv 3)) (re_var (pv 1))) (rw_and1 (rt_isnt (re_var (pv 5)) re_non)))) (by exact rs_one (rs_asg (re_var (pv 5)) (rg_sub C.hu (re_var (pv 2)) (re_var (pv 3))))) rs_nil))) ?_; exact rs_one (rs_ret (re_var (pv 2))))
theorem e1 (G : Gb mg) (F : Fun K "next_round" "next_round" s1 f fd) (hm : mg "next_round" = some (.ref f)) : Entry P w K mg base T 1 f1.name :=
  entry (D := f1) rfl F sc1 hm (fun _ _ _ _ _ _ us hl => match us, hl with | [_, _], _ => rfl) fun k cdv A outer s H E C => d1 G C
theorem sc2 : FnScope f2.N f2.ps (defScope s2) := ⟨rfl, rfl, rfl, by decide +kernel, rfl, by decide +kernel, by decide +kernel⟩
theorem d2 (G : Gb mg) {k : Nat} {cdv : Value} {A : Around} {outer : List Env} {s : Shared} {H : Hp} {E : XK} (C : Ctx (cxOf CX0 P w K mg base f2.N "plain_values" (defScope s2) f cdv A outer s H E).nox T k) :
    PSs (cxOf CX0 P w K mg base f2.N "plain_values" (defScope s2) f cdv A outer s H E).nox (defBody s2) (RdS K (b_plain_values (runT T k))) :=
  (by refine rs_cons (rs_set (i := 1) sc2.nd rfl (by first | exact Or.inl rfl | exact Or.inr rfl) (re_dt (rd_disp (rpp_cons (re_gstr rfl G.c_NUM) re_int rpp_nil)))) ?_; refine rs_cons (rs_set (i := 2) sc2.nd rfl (by first | exact Or.inl rfl | exact Or.inr rfl) (re_callF C 1 rfl rfl rfl (ra_cons (re_var (pv 0)) (ra_cons (re_var (pv 1)) ra_nil)))) ?_; refine rs_cons (rs_while PassesOwn.never (rt_gt (re_callB w_len rfl G.b_len bt_len (ra_cons (re_var (pv 2)) ra_nil)) re_int) (by refine rs_cons (rs_expr (re_m w_update PySem.F.plainAttrs_dict PySem.F.slot_dict_update PySem.F.type_dict_update (re_var (pv 1)) (ra_cons (re_var (pv 2)) ra_nil))) ?_; exact rs_one (rs_set (i := 2) sc2.nd rfl (by first | exact Or.inl rfl | exact Or.inr rfl) (re_callF C 1 rfl rfl rfl (ra_cons (re_var (pv 0)) (ra_cons (re_var (pv 1)) ra_nil)))))) ?_; exact rs_one (rs_ret (re_var (pv 1))))
theorem e2 (G : Gb mg) (F : Fun K "plain_values" "plain_values" s2 f fd) (hm : mg "plain_values" = some (.ref f)) : Entry P w K mg base T 2 f2.name :=
  entry (D := f2) rfl F sc2 hm (fun _ _ _ _ _ _ us hl => match us, hl with | [_], _ => rfl) fun k cdv A outer s H E C => d2 G C
theorem sc3 : FnScope f3.N f3.ps (defScope s3) := ⟨rfl, rfl, rfl, by decide +kernel, rfl, by decide +kernel, by decide +kernel⟩
theorem d3 (G : Gb mg) {k : Nat} {cdv : Value} {A : Around} {outer : List Env} {s : Shared} {H : Hp} {E : XK} (C : Ctx (cxOf CX0 P w K mg base f3.N "has_values" (defScope s3) f cdv A outer s H E).nox T k) :
    PSs (cxOf CX0 P w K mg base f3.N "has_values" (defScope s3) f cdv A outer s H E).nox (defBody s3) (RdS K (b_has_values (runT T k))) :=
  (by exact rs_one (rs_ret (re_in C.hu (re_var (pv 1)) (re_callF C 2 rfl rfl rfl (ra_cons (re_var (pv 0)) ra_nil)))))
theorem e3 (G : Gb mg) (F : Fun K "has_values" "has_values" s3 f fd) (hm : mg "has_values" = some (.ref f)) : Entry P w K mg base T 3 f3.name :=
  entry (D := f3) rfl F sc3 hm (fun _ _ _ _ _ _ us hl => match us, hl with | [_, _], _ => rfl) fun k cdv A outer s H E C => d3 G C
theorem sc4 : FnScope f4.N f4.ps (defScope s4) := ⟨rfl, rfl, rfl, by decide +kernel, rfl, by decide +kernel, by decide +kernel⟩
theorem d4 (G : Gb mg) {k : Nat} {cdv : Value} {A : Around} {outer : List Env} {s : Shared} {H : Hp} {E : XK} (C : Ctx (cxOf CX0 P w K mg base f4.N "plain_value" (defScope s4) f cdv A outer s H E).nox T k) :
    PSs (cxOf CX0 P w K mg base f4.N "plain_value" (defScope s4) f cdv A outer s H E).nox (defBody s4) (RdS K (b_plain_value (runT T k))) :=
  (by exact rs_one (rs_ret (re_ix C.hu (re_callF C 2 rfl rfl rfl (ra_cons (re_var (pv 0)) ra_nil)) (re_var (pv 1)))))
theorem e4 (G : Gb mg) (F : Fun K "plain_value" "plain_value" s4 f fd) (hm : mg "plain_value" = some (.ref f)) : Entry P w K mg base T 4 f4.name :=
  entry (D := f4) rfl F sc4 hm (fun _ _ _ _ _ _ us hl => match us, hl with | [_, _], _ => rfl) fun k cdv A outer s H E C => d4 G C
theorem sc5 : FnScope f5.N f5.ps (defScope s5) := ⟨rfl, rfl, rfl, by decide +kernel, rfl, by decide +kernel, by decide +kernel⟩
theorem d5 (G : Gb mg) {k : Nat} {cdv : Value} {A : Around} {outer : List Env} {s : Shared} {H : Hp} {E : XK} (C : Ctx (cxOf CX0 P w K mg base f5.N "all_makes" (defScope s5) f cdv A outer s H E).nox T k) :
    PSs (cxOf CX0 P w K mg base f5.N "all_makes" (defScope s5) f cdv A outer s H E).nox (defBody s5) (RdS K (b_all_makes (runT T k))) :=
  (by refine rs_cons (rs_for PassesOwn.never C.calm (ri_seq (re_var (pv 0))) (rg_tup C.calm (rgs_cons (rg_name (i := 2) sc5.nd rfl (by first | exact Or.inl rfl | exact Or.inr rfl)) (rgs_cons (rg_name (i := 3) sc5.nd rfl (by first | exact Or.inl rfl | exact Or.inr rfl)) rgs_nil))) (by exact rs_one (rs_if (rt_eq C.hu (re_var (pv 2)) (re_var (pv 1))) (by exact rs_one (rs_ret (re_var (pv 3)))) rs_nil))) ?_; exact rs_one (rs_ret (re_tup ra_nil)))
theorem e5 (G : Gb mg) (F : Fun K "all_makes" "all_makes" s5 f fd) (hm : mg "all_makes" = some (.ref f)) : Entry P w K mg base T 5 f5.name :=
  entry (D := f5) rfl F sc5 hm (fun _ _ _ _ _ _ us hl => match us, hl with | [_, _], _ => rfl) fun k cdv A outer s H E C => d5 G C
theorem sc6 : FnScope f6.N f6.ps (defScope s6) := ⟨rfl, rfl, rfl, by decide +kernel, rfl, by decide +kernel, by decide +kernel⟩
theorem d6 (G : Gb mg) {k : Nat} {cdv : Value} {A : Around} {outer : List Env} {s : Shared} {H : Hp} {E : XK} (C : Ctx (cxOf CX0 P w K mg base f6.N "makes_of" (defScope s6) f cdv A outer s H E).nox T k) :
    PSs (cxOf CX0 P w K mg base f6.N "makes_of" (defScope s6) f cdv A outer s H E).nox (defBody s6) (RdS K (b_makes_of (runT T k))) :=
  (by refine rs_cons (rs_set (i := 2) sc6.nd rfl (by first | exact Or.inl rfl | exact Or.inr rfl) (re_callF C 2 rfl rfl rfl (ra_cons (re_var (pv 0)) ra_nil))) ?_; exact rs_one (rs_ret (re_callTy w_tuple rfl G.b_tuple bt_tuple (ra_cons (re_ro (rn_lc (own := [("make", 3)]) C.calm sc6.nd (ri_seq (re_callF C 5 rfl rfl rfl (ra_cons (re_var (pv 0)) (ra_cons (re_var (pv 1)) ra_nil)))) (by kernel_rfl) (fun s0 H0 c0 cl0 fp0 => (rg_name (i := 3) sc6.nd rfl (by first | exact Or.inl rfl | exact Or.inr rfl))) (fun s0 H0 c0 cl0 fp0 => (rts_one (rt_val (re_callB (w_all (C.blk s0 H0 _ _ fp0).calm) rfl G.b_all bt_all (ra_cons (re_ro (rn_lc (own := [("field", 4)]) (C.blk s0 H0 _ _ fp0).calm sc6.nd (ri_seq (re_ix (C.blk s0 H0 _ _ fp0).hu (re_var (pv 3)) re_int)) (by kernel_rfl) (fun s1 H1 c1 cl1 fp1 => (rg_name (i := 4) sc6.nd rfl (by first | exact Or.inl rfl | exact Or.inr rfl))) (fun s1 H1 c1 cl1 fp1 => rts_nil) (fun s1 H1 c1 cl1 fp1 => (re_in ((C.blk s0 H0 _ _ fp0).blk s1 H1 _ _ fp1).hu (re_var (pv 4)) (re_var (pv 2)))))) ra_nil))))) (fun s0 H0 c0 cl0 fp0 => (re_var (pv 3))))) ra_nil))))
theorem e6 (G : Gb mg) (F : Fun K "makes_of" "makes_of" s6 f fd) (hm : mg "makes_of" = some (.ref f)) : Entry P w K mg base T 6 f6.name :=
  entry (D := f6) rfl F sc6 hm (fun _ _ _ _ _ _ us hl => match us, hl with | [_, _], _ => rfl) fun k cdv A outer s H E C => d6 G C
theorem sc7 : FnScope f7.N f7.ps (defScope s7) := ⟨rfl, rfl, rfl, by decide +kernel, rfl, by decide +kernel, by decide +kernel⟩
theorem d7 (G : Gb mg) {k : Nat} {cdv : Value} {A : Around} {outer : List Env} {s : Shared} {H : Hp} {E : XK} (C : Ctx (cxOf CX0 P w K mg base f7.N "_law_pool" (defScope s7) f cdv A outer s H E).nox T k) :
    PSs (cxOf CX0 P w K mg base f7.N "_law_pool" (defScope s7) f cdv A outer s H E).nox (defBody s7) (RdS K (b_law_pool (runT T k))) :=
  (by exact rs_one (rs_ret (re_tr (rn_lst (ra_cons (re_callB (w_max C.calm) rfl G.b_max bt_max (ra_cons re_int (ra_cons (re_sub (re_var (pv 0)) (re_pow re_int re_int)) ra_nil))) (ra_cons (re_mod (re_var (pv 0)) (re_pow re_int re_int)) (ra_cons re_int ra_nil)))))))
theorem e7 (G : Gb mg) (F : Fun K "_law_pool" "_law_pool" s7 f fd) (hm : mg "_law_pool" = some (.ref f)) : Entry P w K mg base T 7 f7.name :=
  entry (D := f7) rfl F sc7 hm (fun _ _ _ _ _ _ us hl => match us, hl with | [_], _ => rfl) fun k cdv A outer s H E C => d7 G C
theorem sc8 : FnScope f8.N f8.ps (defScope s8) := ⟨rfl, rfl, rfl, by decide +kernel, rfl, by decide +kernel, by decide +kernel⟩
theorem d8 (G : Gb mg) {k : Nat} {cdv : Value} {A : Around} {outer : List Env} {s : Shared} {H : Hp} {E : XK} (C : Ctx (cxOf CX0 P w K mg base f8.N "_law_next" (defScope s8) f cdv A outer s H E).nox T k) :
    PSs (cxOf CX0 P w K mg base f8.N "_law_next" (defScope s8) f cdv A outer s H E).nox (defBody s8) (RdS K (b_law_next (runT T k))) :=
  (by refine rs_cons (rs_if (rt_gt (re_ix C.hu (re_var (pv 0)) re_int) re_int) (by refine rs_cons (rs_set (i := 2) sc8.nd rfl (by first | exact Or.inl rfl | exact Or.inr rfl) (re_mod (re_ix C.hu (re_var (pv 0)) re_int) (re_var (pv 1)))) ?_; refine rs_cons (rs_asg (re_div (re_ix C.hu (re_var (pv 0)) re_int) (re_var (pv 1))) (rg_sub C.hu (re_var (pv 0)) re_int)) ?_; exact rs_one (rs_ret (re_var (pv 2)))) rs_nil) ?_; refine rs_cons (rs_asg (re_add (re_ix C.hu (re_var (pv 0)) re_int) re_int) (rg_sub C.hu (re_var (pv 0)) re_int)) ?_; refine rs_cons (rs_set (i := 3) sc8.nd rfl (by first | exact Or.inl rfl | exact Or.inr rfl) (re_mod (re_add (re_ix C.hu (re_var (pv 0)) re_int) (re_mul re_int (re_ix C.hu (re_var (pv 0)) re_int))) re_int)) ?_; refine rs_cons (rs_set (i := 4) sc8.nd rfl (by first | exact Or.inl rfl | exact Or.inr rfl) (re_mod (re_mul (re_add (re_var (pv 3)) re_int) (re_add (re_var (pv 3)) re_int)) re_int)) ?_; exact rs_one (rs_ret (re_mod (re_div (re_mod (re_mul (re_var (pv 4)) (re_var (pv 4))) re_int) re_int) (re_var (pv 1)))))
theorem e8 (G : Gb mg) (F : Fun K "_law_next" "_law_next" s8 f fd) (hm : mg "_law_next" = some (.ref f)) : Entry P w K mg base T 8 f8.name :=
  entry (D := f8) rfl F sc8 hm (fun _ _ _ _ _ _ us hl => match us, hl with | [_, _], _ => rfl) fun k cdv A outer s H E C => d8 G C
theorem sc9 : FnScope f9.N f9.ps (defScope s9) := ⟨rfl, rfl, rfl, by decide +kernel, rfl, by decide +kernel, by decide +kernel⟩
theorem d9 (G : Gb mg) {k : Nat} {cdv : Value} {A : Around} {outer : List Env} {s : Shared} {H : Hp} {E : XK} (C : Ctx (cxOf CX0 P w K mg base f9.N "_law_cells" (defScope s9) f cdv A outer s H E).nox T k) :
    PSs (cxOf CX0 P w K mg base f9.N "_law_cells" (defScope s9) f cdv A outer s H E).nox (defBody s9) (RdS K (b_law_cells (runT T k))) :=
  (by refine rs_cons (rs_set (i := 2) sc9.nd rfl (by first | exact Or.inl rfl | exact Or.inr rfl) (re_tr (rn_rep (rn_lst (ra_cons re_int ra_nil)) (re_var (pv 1))))) ?_; refine rs_cons (rs_for PassesOwn.never C.calm (ri_range1 rfl G.b_range (re_callB w_len rfl G.b_len bt_len (ra_cons (re_var (pv 0)) ra_nil))) (rg_name (i := 3) sc9.nd rfl (by first | exact Or.inl rfl | exact Or.inr rfl)) (by exact rs_one (rs_if (rt_lt (re_var (pv 3)) (re_var (pv 1))) (by exact rs_one (rs_asg (re_ix C.hu (re_var (pv 0)) (re_var (pv 3))) (rg_sub C.hu (re_var (pv 2)) (re_var (pv 3))))) (by exact rs_one (rs_asg (re_add (re_mul (re_ix C.hu (re_var (pv 2)) (re_mod (re_var (pv 3)) (re_var (pv 1)))) re_int) (re_ix C.hu (re_var (pv 0)) (re_var (pv 3)))) (rg_sub C.hu (re_var (pv 2)) (re_mod (re_var (pv 3)) (re_var (pv 1))))))))) ?_; exact rs_one (rs_ret (re_var (pv 2))))
theorem e9 (G : Gb mg) (F : Fun K "_law_cells" "_law_cells" s9 f fd) (hm : mg "_law_cells" = some (.ref f)) : Entry P w K mg base T 9 f9.name :=
  entry (D := f9) rfl F sc9 hm (fun _ _ _ _ _ _ us hl => match us, hl with | [_, _], _ => rfl) fun k cdv A outer s H E C => d9 G C
theorem sc10 : FnScope f10.N f10.ps (defScope s10) := ⟨rfl, rfl, rfl, by decide +kernel, rfl, by decide +kernel, by decide +kernel⟩
theorem d10 (G : Gb mg) {k : Nat} {cdv : Value} {A : Around} {outer : List Env} {s : Shared} {H : Hp} {E : XK} (C : Ctx (cxOf CX0 P w K mg base f10.N "_law_spelt" (defScope s10) f cdv A outer s H E).nox T k) :
    PSs (cxOf CX0 P w K mg base f10.N "_law_spelt" (defScope s10) f cdv A outer s H E).nox (defBody s10) (RdS K (b_law_spelt (runT T k))) :=
  (by refine rs_cons (rs_set (i := 2) sc10.nd rfl (by first | exact Or.inl rfl | exact Or.inr rfl) re_str) ?_; refine rs_cons (rs_set (i := 3) sc10.nd rfl (by first | exact Or.inl rfl | exact Or.inr rfl) re_str) ?_; refine rs_cons (rs_for PassesOwn.never C.calm (ri_range1 rfl G.b_range (re_var (pv 1))) (rg_name (i := 4) sc10.nd rfl (by first | exact Or.inl rfl | exact Or.inr rfl)) (by refine rs_cons (rs_set (i := 3) sc10.nd rfl (by first | exact Or.inl rfl | exact Or.inr rfl) (re_add (re_ix C.hu (re_var (pv 2)) (re_mod (re_var (pv 0)) re_int)) (re_var (pv 3)))) ?_; exact rs_one (rs_set (i := 0) sc10.nd rfl (by first | exact Or.inl rfl | exact Or.inr rfl) (re_div (re_var (pv 0)) re_int)))) ?_; exact rs_one (rs_ret (re_var (pv 3))))
theorem e10 (G : Gb mg) (F : Fun K "_law_spelt" "_law_spelt" s10 f fd) (hm : mg "_law_spelt" = some (.ref f)) : Entry P w K mg base T 10 f10.name :=
  entry (D := f10) rfl F sc10 hm (fun _ _ _ _ _ _ us hl => match us, hl with | [_, _], _ => rfl) fun k cdv A outer s H E C => d10 G C
theorem sc11 : FnScope f11.N f11.ps (defScope s11) := ⟨rfl, rfl, rfl, by decide +kernel, rfl, by decide +kernel, by decide +kernel⟩
theorem d11 (G : Gb mg) {k : Nat} {cdv : Value} {A : Around} {outer : List Env} {s : Shared} {H : Hp} {E : XK} (C : Ctx (cxOf CX0 P w K mg base f11.N "_law_any_name" (defScope s11) f cdv A outer s H E).nox T k) :
    PSs (cxOf CX0 P w K mg base f11.N "_law_any_name" (defScope s11) f cdv A outer s H E).nox (defBody s11) (RdS K (b_law_any_name (runT T k))) :=
  (by refine rs_cons (rs_set (i := 2) sc11.nd rfl (by first | exact Or.inl rfl | exact Or.inr rfl) (re_add re_int (re_callF C 8 rfl rfl rfl (ra_cons (re_var (pv 0)) (ra_cons re_int ra_nil))))) ?_; refine rs_cons (rs_set (i := 3) sc11.nd rfl (by first | exact Or.inl rfl | exact Or.inr rfl) (re_callF C 8 rfl rfl rfl (ra_cons (re_var (pv 0)) (ra_cons (re_pow re_int re_int) ra_nil)))) ?_; refine rs_cons (rs_for PassesOwn.never C.calm (ri_range1 rfl G.b_range (re_callB w_len rfl G.b_len bt_len (ra_cons (re_var (pv 1)) ra_nil))) (rg_name (i := 4) sc11.nd rfl (by first | exact Or.inl rfl | exact Or.inr rfl)) (by exact rs_one (rs_if (rt_in C.hu (re_callF C 10 rfl rfl rfl (ra_cons (re_var (pv 3)) (ra_cons (re_var (pv 2)) ra_nil))) (re_var (pv 1))) (by exact rs_one (rs_set (i := 3) sc11.nd rfl (by first | exact Or.inl rfl | exact Or.inr rfl) (re_add (re_var (pv 3)) re_int))) rs_nil))) ?_; exact rs_one (rs_ret (re_callF C 10 rfl rfl rfl (ra_cons (re_var (pv 3)) (ra_cons (re_var (pv 2)) ra_nil)))))
theorem e11 (G : Gb mg) (F : Fun K "_law_any_name" "_law_any_name" s11 f fd) (hm : mg "_law_any_name" = some (.ref f)) : Entry P w K mg base T 11 f11.name :=
  entry (D := f11) rfl F sc11 hm (fun _ _ _ _ _ _ us hl => match us, hl with | [_, _], _ => rfl) fun k cdv A outer s H E C => d11 G C
theorem sc12 : FnScope f12.N f12.ps (defScope s12) := ⟨rfl, rfl, rfl, by decide +kernel, rfl, by decide +kernel, by decide +kernel⟩
theorem d12 (G : Gb mg) {k : Nat} {cdv : Value} {A : Around} {outer : List Env} {s : Shared} {H : Hp} {E : XK} (C : Ctx (cxOf CX0 P w K mg base f12.N "_law_names" (defScope s12) f cdv A outer s H E).nox T k) :
    PSs (cxOf CX0 P w K mg base f12.N "_law_names" (defScope s12) f cdv A outer s H E).nox (defBody s12) (RdS K (b_law_names (runT T k))) :=
  (by refine rs_cons (rs_set (i := 3) sc12.nd rfl (by first | exact Or.inl rfl | exact Or.inr rfl) (re_tr (rn_lst ra_nil))) ?_; refine rs_cons (rs_set (i := 4) sc12.nd rfl (by first | exact Or.inl rfl | exact Or.inr rfl) (re_callF C 8 rfl rfl rfl (ra_cons (re_var (pv 0)) (ra_cons re_int ra_nil)))) ?_; refine rs_cons (rs_if (rt_gt (re_var (pv 4)) re_int) (by refine rs_cons (rs_for PassesOwn.never C.calm (ri_range1 rfl G.b_range (re_var (pv 1))) (rg_name (i := 5) sc12.nd rfl (by first | exact Or.inl rfl | exact Or.inr rfl)) (by exact rs_one (rs_expr (re_m w_append PySem.F.plainAttrs_list PySem.F.slot_list_append PySem.F.type_list_append (re_var (pv 3)) (ra_cons (re_callF C 11 rfl rfl rfl (ra_cons (re_var (pv 0)) (ra_cons (re_add (re_var (pv 3)) (re_var (pv 2))) ra_nil))) ra_nil))))) ?_; exact rs_one (rs_ret (re_var (pv 3)))) rs_nil) ?_; refine rs_cons (rs_set (i := 6) sc12.nd rfl (by first | exact Or.inl rfl | exact Or.inr rfl) (re_callF C 10 rfl rfl rfl (ra_cons (re_callF C 8 rfl rfl rfl (ra_cons (re_var (pv 0)) (ra_cons (re_pow re_int re_int) ra_nil))) (ra_cons (re_var (pv 4)) ra_nil)))) ?_; refine rs_cons (rs_set (i := 7) sc12.nd rfl (by first | exact Or.inl rfl | exact Or.inr rfl) (re_callF C 8 rfl rfl rfl (ra_cons (re_var (pv 0)) (ra_cons (re_add (re_var (pv 4)) re_int) ra_nil)))) ?_; refine rs_cons (rs_set (i := 8) sc12.nd rfl (by first | exact Or.inl rfl | exact Or.inr rfl) (re_callF C 8 rfl rfl rfl (ra_cons (re_var (pv 0)) (ra_cons re_int ra_nil)))) ?_; refine rs_cons (rs_set (i := 9) sc12.nd rfl (by first | exact Or.inl rfl | exact Or.inr rfl) (re_callF C 8 rfl rfl rfl (ra_cons (re_var (pv 0)) (ra_cons re_int ra_nil)))) ?_; refine rs_cons (rs_for PassesOwn.never C.calm (ri_range1 rfl G.b_range (re_var (pv 1))) (rg_name (i := 5) sc12.nd rfl (by first | exact Or.inl rfl | exact Or.inr rfl)) (by refine rs_cons (rs_set (i := 10) sc12.nd rfl (by first | exact Or.inl rfl | exact Or.inr rfl) (re_add (re_add (re_slice (re_var (pv 6)) ro_none (ro_some (re_var (pv 7)))) (re_callF C 10 rfl rfl rfl (ra_cons (re_add (re_var (pv 8)) (re_mul re_int (re_var (pv 5)))) (ra_cons re_int ra_nil)))) (re_slice (re_var (pv 6)) (ro_some (re_var (pv 7))) ro_none))) ?_; refine rs_cons (rs_if (PW.pt (rw_or (PW.pt (rw_and (rt_eq C.hu (re_var (pv 9)) re_int) (rw_and1 (rt_eq C.hu (re_mod (re_var (pv 5)) re_int) re_int)))) (rw_or1 (rt_in C.hu (re_var (pv 10)) (re_var (pv 2)))))) (by exact rs_one (rs_set (i := 10) sc12.nd rfl (by first | exact Or.inl rfl | exact Or.inr rfl) (re_add (re_var (pv 10)) re_str))) rs_nil) ?_; exact rs_one (rs_expr (re_m w_append PySem.F.plainAttrs_list PySem.F.slot_list_append PySem.F.type_list_append (re_var (pv 3)) (ra_cons (re_var (pv 10)) ra_nil))))) ?_; exact rs_one (rs_ret (re_var (pv 3))))
theorem e12 (G : Gb mg) (F : Fun K "_law_names" "_law_names" s12 f fd) (hm : mg "_law_names" = some (.ref f)) : Entry P w K mg base T 12 f12.name :=
  entry (D := f12) rfl F sc12 hm (fun _ _ _ _ _ _ us hl => match us, hl with | [_, _, _], _ => rfl) fun k cdv A outer s H E C => d12 G C
theorem sc13 : FnScope f13.N f13.ps (defScope s13) := ⟨rfl, rfl, rfl, by decide +kernel, rfl, by decide +kernel, by decide +kernel⟩
theorem d13 (G : Gb mg) {k : Nat} {cdv : Value} {A : Around} {outer : List Env} {s : Shared} {H : Hp} {E : XK} (C : Ctx (cxOf CX0 P w K mg base f13.N "_law_book" (defScope s13) f cdv A outer s H E).nox T k) :
    PSs (cxOf CX0 P w K mg base f13.N "_law_book" (defScope s13) f cdv A outer s H E).nox (defBody s13) (RdS K (b_law_book (runT T k))) :=
  (by refine rs_cons (rs_set (i := 1) sc13.nd rfl (by first | exact Or.inl rfl | exact Or.inr rfl) (re_ix C.hu (re_ro (rn_lst (ra_cons re_int (ra_cons re_int (ra_cons re_int (ra_cons re_int (ra_cons re_int (ra_cons re_int (ra_cons re_int (ra_cons re_int ra_nil)))))))))) (re_callF C 8 rfl rfl rfl (ra_cons (re_var (pv 0)) (ra_cons re_int ra_nil))))) ?_; refine rs_cons (rs_set (i := 2) sc13.nd rfl (by first | exact Or.inl rfl | exact Or.inr rfl) (re_eq C.hu (re_callF C 8 rfl rfl rfl (ra_cons (re_var (pv 0)) (ra_cons re_int ra_nil))) re_int)) ?_; refine rs_cons (rs_if (rt_val (re_var (pv 2))) (by exact rs_one (rs_set (i := 1) sc13.nd rfl (by first | exact Or.inl rfl | exact Or.inr rfl) (re_add re_int (re_callF C 8 rfl rfl rfl (ra_cons (re_var (pv 0)) (ra_cons re_int ra_nil)))))) rs_nil) ?_; refine rs_cons (rs_set (i := 3) sc13.nd rfl (by first | exact Or.inl rfl | exact Or.inr rfl) (re_callF C 12 rfl rfl rfl (ra_cons (re_var (pv 0)) (ra_cons (re_var (pv 1)) (ra_cons (re_ro (rn_lst (ra_cons re_str ra_nil))) ra_nil))))) ?_; refine rs_cons (rs_set (i := 4) sc13.nd rfl (by first | exact Or.inl rfl | exact Or.inr rfl) (re_call C 12 rfl rfl rfl (ra_cons (re_var (pv 0)) (ra_cons re_int (ra_cons (re_ro (rn_lst ra_nil)) ra_nil))))) ?_; refine rs_cons (rs_set (i := 5) sc13.nd rfl (by first | exact Or.inl rfl | exact Or.inr rfl) (re_tr (rn_lst ra_nil))) ?_; refine rs_cons (rs_for PassesOwn.never C.calm (ri_range1 rfl G.b_range (re_var (pv 1))) (rg_name (i := 6) sc13.nd rfl (by first | exact Or.inl rfl | exact Or.inr rfl)) (by refine rs_cons (rs_set (i := 7) sc13.nd rfl (by first | exact Or.inl rfl | exact Or.inr rfl) (re_tr (rn_lst ra_nil))) ?_; refine rs_cons (rs_set (i := 8) sc13.nd rfl (by first | exact Or.inl rfl | exact Or.inr rfl) (re_ix C.hu (re_ro (rn_lst (ra_cons (re_add (re_var (pv 3)) (re_ro (rn_lst (ra_cons re_str (ra_cons re_str ra_nil))))) (ra_cons (re_add (re_slice (re_var (pv 3)) (ro_some (re_add (re_var (pv 6)) re_int)) ro_none) (re_ro (rn_lst (ra_cons re_str ra_nil)))) ra_nil)))) (re_callTy w_int rfl G.b_int bt_int (ra_cons (re_var (pv 2)) ra_nil)))) ?_; refine rs_cons (rs_set (i := 9) sc13.nd rfl (by first | exact Or.inl rfl | exact Or.inr rfl) (re_callB (w_min C.calm) rfl G.b_min bt_min (ra_cons (re_ix C.hu (re_ro (rn_lst (ra_cons re_int (ra_cons re_int (ra_cons re_int (ra_cons re_int (ra_cons re_int (ra_cons re_int (ra_cons re_int (ra_cons re_int ra_nil)))))))))) (re_callF C 8 rfl rfl rfl (ra_cons (re_var (pv 0)) (ra_cons re_int ra_nil)))) (ra_cons (re_sub (re_add (re_add (re_callB w_len rfl G.b_len bt_len (ra_cons (re_var (pv 4)) ra_nil)) (re_var (pv 6))) re_int) (re_var (pv 1))) ra_nil)))) ?_; refine rs_cons (rs_for PassesOwn.never C.calm (ri_range1 rfl G.b_range (re_var (pv 9))) (rg_name (i := 10) sc13.nd rfl (by first | exact Or.inl rfl | exact Or.inr rfl)) (by refine rs_cons (rs_set (i := 11) sc13.nd rfl (by first | exact Or.inl rfl | exact Or.inr rfl) (re_ix C.hu (re_ro (rn_lst (ra_cons re_int (ra_cons re_int (ra_cons re_int (ra_cons re_int (ra_cons re_int (ra_cons re_int (ra_cons re_int (ra_cons re_int ra_nil)))))))))) (re_callF C 8 rfl rfl rfl (ra_cons (re_var (pv 0)) (ra_cons re_int ra_nil))))) ?_; refine rs_cons (rs_setLc (i := 12) (own := [("place", 14)]) (fun _ _ _ => ro_rd) C.calm sc13.nd rfl rfl (sw_true rfl rfl rfl (by decide +kernel)) (ri_range1 rfl G.b_range (re_var (pv 11))) (by kernel_rfl) (fun s0 H0 c0 cl0 fp0 => (rg_name (i := 14) sc13.nd rfl (by first | exact Or.inl rfl | exact Or.inr rfl))) (fun s0 H0 c0 cl0 fp0 => rts_nil) (fun s0 H0 c0 cl0 fp0 => (re_ix (C.blk s0 H0 _ _ fp0).hu (re_var (pv 8)) (re_callF (C.blk s0 H0 _ _ fp0) 8 rfl rfl rfl (ra_cons (re_var (pv 0)) (ra_cons (re_callB w_len rfl G.b_len bt_len (ra_cons (re_var (pv 8)) ra_nil)) ra_nil)))))) ?_; refine rs_cons (rs_if (rt_val (re_var (pv 2))) (by exact rs_one (rs_set (i := 12) sc13.nd rfl (by first | exact Or.inl rfl | exact Or.inr rfl) (re_add (re_slice (re_var (pv 12)) ro_none (ro_some re_int)) (re_slice (re_var (pv 8)) ro_none (ro_some re_int))))) rs_nil) ?_; exact rs_one (rs_expr (re_m w_append PySem.F.plainAttrs_list PySem.F.slot_list_append PySem.F.type_list_append (re_var (pv 7)) (ra_cons (re_tup (ra_cons (re_m w_popAt PySem.F.plainAttrs_list PySem.F.slot_list_pop PySem.F.type_list_pop (re_var (pv 4)) (ra_cons re_int ra_nil)) (ra_cons (re_callTy w_tuple rfl G.b_tuple bt_tuple (ra_cons (re_var (pv 12)) ra_nil)) ra_nil))) ra_nil))))) ?_; exact rs_one (rs_expr (re_m w_append PySem.F.plainAttrs_list PySem.F.slot_list_append PySem.F.type_list_append (re_var (pv 5)) (ra_cons (re_tup (ra_cons (re_ix C.hu (re_var (pv 3)) (re_var (pv 6))) (ra_cons (re_callTy w_tuple rfl G.b_tuple bt_tuple (ra_cons (re_var (pv 7)) ra_nil)) ra_nil))) ra_nil))))) ?_; refine rs_cons (rs_set (i := 13) sc13.nd rfl (by first | exact Or.inl rfl | exact Or.inr rfl) (re_callF C 8 rfl rfl rfl (ra_cons (re_var (pv 0)) (ra_cons (re_var (pv 1)) ra_nil)))) ?_; exact rs_one (rs_ret (re_callTy w_tuple rfl G.b_tuple bt_tuple (ra_cons (re_add (re_slice (re_var (pv 5)) (ro_some (re_var (pv 13))) ro_none) (re_slice (re_var (pv 5)) ro_none (ro_some (re_var (pv 13))))) ra_nil))))
theorem e13 (G : Gb mg) (F : Fun K "_law_book" "_law_book" s13 f fd) (hm : mg "_law_book" = some (.ref f)) : Entry P w K mg base T 13 f13.name :=
  entry (D := f13) rfl F sc13 hm (fun _ _ _ _ _ _ us hl => match us, hl with | [_], _ => rfl) fun k cdv A outer s H E C => d13 G C
theorem sc14 : FnScope f14.N f14.ps (defScope s14) := ⟨rfl, rfl, rfl, by decide +kernel, rfl, by decide +kernel, by decide +kernel⟩
theorem d14 (G : Gb mg) {k : Nat} {cdv : Value} {A : Around} {outer : List Env} {s : Shared} {H : Hp} {E : XK} (C : Ctx (cxOf CX0 P w K mg base f14.N "_law_is_value" (defScope s14) f cdv A outer s H E).nox T k) :
    PSs (cxOf CX0 P w K mg base f14.N "_law_is_value" (defScope s14) f cdv A outer s H E).nox (defBody s14) (RdS K (b_law_is_value (runT T k))) :=
  (by refine rs_cons (rs_if (rt_eq C.hu (re_var (pv 1)) re_str) (by exact rs_one (rs_ret (re_and (re_isi rfl G.b_isinstance rfl G.b_int bt_int (re_var (pv 2))) (re_one (re_not (re_isi rfl G.b_isinstance rfl G.b_bool bt_bool (re_var (pv 2)))))))) rs_nil) ?_; refine rs_cons (rs_if (PW.pt (rw_or (rt_not (rt_val (re_isi rfl G.b_isinstance rfl G.b_tuple bt_tuple (re_var (pv 2))))) (rw_or1 (rt_eq C.hu (re_callB w_len rfl G.b_len bt_len (ra_cons (re_var (pv 2)) ra_nil)) re_int)))) (by exact rs_one (rs_ret re_bl)) rs_nil) ?_; refine rs_cons (rs_for PassesOwn.never C.calm (ri_seq (re_var (pv 0))) (rg_tup C.calm (rgs_cons (rg_name (i := 3) sc14.nd rfl (by first | exact Or.inl rfl | exact Or.inr rfl)) (rgs_cons (rg_name (i := 4) sc14.nd rfl (by first | exact Or.inl rfl | exact Or.inr rfl)) rgs_nil))) (by exact rs_one (rs_for PassesOwn.never C.calm (ri_seq (re_var (pv 4))) (rg_tup C.calm (rgs_cons (rg_name (i := 5) sc14.nd rfl (by first | exact Or.inl rfl | exact Or.inr rfl)) (rgs_cons (rg_name (i := 6) sc14.nd rfl (by first | exact Or.inl rfl | exact Or.inr rfl)) rgs_nil))) (by exact rs_one (rs_if (PW.pt (rw_and (rt_eq C.hu (re_var (pv 3)) (re_var (pv 1))) (rw_and (rt_eq C.hu (re_var (pv 5)) (re_ix C.hu (re_var (pv 2)) re_int)) (rw_and1 (rt_eq C.hu (re_callB w_len rfl G.b_len bt_len (ra_cons (re_var (pv 2)) ra_nil)) (re_add (re_callB w_len rfl G.b_len bt_len (ra_cons (re_var (pv 6)) ra_nil)) re_int)))))) (by refine rs_cons (rs_set (i := 7) sc14.nd rfl (by first | exact Or.inl rfl | exact Or.inr rfl) (re_ro (rn_zip C.calm rfl G.b_list rfl G.b_zip (re_var (pv 6)) (re_slice (re_var (pv 2)) (ro_some re_int) ro_none)))) ?_; exact rs_one (rs_ret (re_callB (w_all C.calm) rfl G.b_all bt_all (ra_cons (re_ro (rn_lc (own := [("one", 8), ("part", 9)]) C.calm sc14.nd (ri_seq (re_var (pv 7))) (by kernel_rfl) (fun s0 H0 c0 cl0 fp0 => (rg_tup (C.blk s0 H0 _ _ fp0).calm (rgs_cons (rg_name (i := 8) sc14.nd rfl (by first | exact Or.inl rfl | exact Or.inr rfl)) (rgs_cons (rg_name (i := 9) sc14.nd rfl (by first | exact Or.inl rfl | exact Or.inr rfl)) rgs_nil)))) (fun s0 H0 c0 cl0 fp0 => rts_nil) (fun s0 H0 c0 cl0 fp0 => (re_callF (C.blk s0 H0 _ _ fp0) 14 rfl rfl rfl (ra_cons (re_var (pv 0)) (ra_cons (re_var (pv 8)) (ra_cons (re_var (pv 9)) ra_nil))))))) ra_nil)))) rs_nil))))) ?_; exact rs_one (rs_ret re_bl))
theorem e14 (G : Gb mg) (F : Fun K "_law_is_value" "_law_is_value" s14 f fd) (hm : mg "_law_is_value" = some (.ref f)) : Entry P w K mg base T 14 f14.name :=
  entry (D := f14) rfl F sc14 hm (fun _ _ _ _ _ _ us hl => match us, hl with | [_, _, _], _ => rfl) fun k cdv A outer s H E C => d14 G C
theorem sc15 : FnScope f15.N f15.ps (defScope s15) := ⟨rfl, rfl, rfl, by decide +kernel, rfl, by decide +kernel, by decide +kernel⟩
theorem d15 (G : Gb mg) {k : Nat} {cdv : Value} {A : Around} {outer : List Env} {s : Shared} {H : Hp} {E : XK} (C : Ctx (cxOf CX0 P w K mg base f15.N "law" (defScope s15) f cdv A outer s H E).nox T k) :
    PSs (cxOf CX0 P w K mg base f15.N "law" (defScope s15) f cdv A outer s H E).nox (defBody s15) (RdS K (b_law (runT T k))) :=
  (by refine rs_cons (rs_for PassesOwn.never C.calm (ri_seq (re_callF C 9 rfl rfl rfl (ra_cons (re_var (pv 0)) (ra_cons (re_callB (w_min C.calm) rfl G.b_min bt_min (ra_cons (re_callB (w_max C.calm) rfl G.b_max bt_max (ra_cons re_int (ra_cons (re_callB w_len rfl G.b_len bt_len (ra_cons (re_var (pv 0)) ra_nil)) ra_nil))) (ra_cons re_int ra_nil))) ra_nil)))) (rg_name (i := 1) sc15.nd rfl (by first | exact Or.inl rfl | exact Or.inr rfl)) (by refine rs_cons (rs_set (i := 2) sc15.nd rfl (by first | exact Or.inl rfl | exact Or.inr rfl) (re_callF C 13 rfl rfl rfl (ra_cons (re_call C 7 rfl rfl rfl (ra_cons (re_var (pv 1)) ra_nil)) ra_nil))) ?_; refine rs_cons (rs_set (i := 3) sc15.nd rfl (by first | exact Or.inl rfl | exact Or.inr rfl) (re_add (re_ro (rn_lst (ra_cons re_str ra_nil))) (re_ro (rn_lc (own := [("row", 9)]) C.calm sc15.nd (ri_seq (re_var (pv 2))) (by kernel_rfl) (fun s0 H0 c0 cl0 fp0 => (rg_name (i := 9) sc15.nd rfl (by first | exact Or.inl rfl | exact Or.inr rfl))) (fun s0 H0 c0 cl0 fp0 => (rts_one (rt_isB (re_callF (C.blk s0 H0 _ _ fp0) 3 rfl rfl rfl (ra_cons (re_var (pv 2)) (ra_cons (re_ix (C.blk s0 H0 _ _ fp0).hu (re_var (pv 9)) re_int) ra_nil))) re_bl))) (fun s0 H0 c0 cl0 fp0 => (re_ix (C.blk s0 H0 _ _ fp0).hu (re_var (pv 9)) re_int)))))) ?_; refine rs_cons (rs_if (rt_isntB (re_callF C 3 rfl rfl rfl (ra_cons (re_var (pv 2)) (ra_cons re_str ra_nil))) re_bl) (by exact rs_one (rs_ret re_bl)) rs_nil) ?_; exact rs_one (rs_for PassesOwn.never C.calm (ri_seq (re_var (pv 2))) (rg_tup C.calm (rgs_cons (rg_name (i := 4) sc15.nd rfl (by first | exact Or.inl rfl | exact Or.inr rfl)) (rgs_cons (rg_name (i := 5) sc15.nd rfl (by first | exact Or.inl rfl | exact Or.inr rfl)) rgs_nil))) (by refine rs_cons (rs_set (i := 6) sc15.nd rfl (by first | exact Or.inl rfl | exact Or.inr rfl) (re_callTy w_listR rfl G.b_list bt_list (ra_cons (re_callF C 6 rfl rfl rfl (ra_cons (re_var (pv 2)) (ra_cons (re_var (pv 4)) ra_nil))) ra_nil))) ?_; refine rs_cons (rs_for PassesOwn.never C.calm (ri_seq (re_var (pv 5))) (rg_name (i := 7) sc15.nd rfl (by first | exact Or.inl rfl | exact Or.inr rfl)) (by refine rs_cons (rs_set (i := 8) sc15.nd rfl (by first | exact Or.inl rfl | exact Or.inr rfl) (re_callB (w_all C.calm) rfl G.b_all bt_all (ra_cons (re_ro (rn_lc (own := [("field", 10)]) C.calm sc15.nd (ri_seq (re_ix C.hu (re_var (pv 7)) re_int)) (by kernel_rfl) (fun s0 H0 c0 cl0 fp0 => (rg_name (i := 10) sc15.nd rfl (by first | exact Or.inl rfl | exact Or.inr rfl))) (fun s0 H0 c0 cl0 fp0 => rts_nil) (fun s0 H0 c0 cl0 fp0 => (re_in (C.blk s0 H0 _ _ fp0).hu (re_var (pv 10)) (re_var (pv 3)))))) ra_nil))) ?_; exact rs_one (rs_if (PW.pt (rw_or (rt_ne C.hu (re_var (pv 8)) (re_in C.hu (re_var (pv 7)) (re_var (pv 6)))) (rw_or1 (PW.pt (rw_and (rt_val (re_var (pv 8))) (rw_and1 (rt_nin C.hu (re_var (pv 4)) (re_var (pv 3))))))))) (by exact rs_one (rs_ret re_bl)) rs_nil))) ?_; exact rs_one (rs_if (PW.pt (rw_and (rt_in C.hu (re_var (pv 4)) (re_var (pv 3))) (rw_and1 (rt_not (rt_val (re_callF C 14 rfl rfl rfl (ra_cons (re_var (pv 2)) (ra_cons (re_var (pv 4)) (ra_cons (re_callF C 4 rfl rfl rfl (ra_cons (re_var (pv 2)) (ra_cons (re_var (pv 4)) ra_nil))) ra_nil))))))))) (by exact rs_one (rs_ret re_bl)) rs_nil))))) ?_; exact rs_one (rs_ret re_bl))
theorem e15 (G : Gb mg) (F : Fun K "law" "law" s15 f fd) (hm : mg "law" = some (.ref f)) : Entry P w K mg base T 15 f15.name :=
  entry (D := f15) rfl F sc15 hm (fun _ _ _ _ _ _ us hl => match us, hl with | [_], _ => rfl) fun k cdv A outer s H E C => d15 G C
end
theorem all_mk {l : PySem.W.OpenLaw} {w : World} {K : PySem.W.Frag} {h : Heap} {mg : Str → Option Value} {fa p0 p1 p2 p3 p4 p5 p6 p7 p8 p9 p10 p11 p12 p13 p14 p15 : Addr} (X : K.In h) (Gn : h.Ns mainGlobals mg) (hfa : mg "law" = some (.ref fa))
    {od0 an0 od1 an1 od2 an2 od3 an3 od4 an4 od5 an5 od6 an6 od7 an7 od8 an8 od9 an9 od10 an10 od11 an11 od12 an12 od13 an13 od14 an14 od15 an15 : Option Addr} {sl0 sl1 sl2 sl3 sl4 sl5 sl6 sl7 sl8 sl9 sl10 sl11 sl12 sl13 sl14 sl15 : Array (Option Value)} {oc0 kV0 dc0 pm0 cd0 ct0 oc1 kV1 dc1 pm1 cd1 ct1 oc2 kV2 dc2 pm2 cd2 ct2 oc3 kV3 dc3 pm3 cd3 ct3 oc4 kV4 dc4 pm4 cd4 ct4 oc5 kV5 dc5 pm5 cd5 ct5 oc6 kV6 dc6 pm6 cd6 ct6 oc7 kV7 dc7 pm7 cd7 ct7 oc8 kV8 dc8 pm8 cd8 ct8 oc9 kV9 dc9 pm9 cd9 ct9 oc10 kV10 dc10 pm10 cd10 ct10 oc11 kV11 dc11 pm11 cd11 ct11 oc12 kV12 dc12 pm12 cd12 ct12 oc13 kV13 dc13 pm13 cd13 ct13 oc14 kV14 dc14 pm14 cd14 ct14 oc15 kV15 dc15 pm15 cd15 ct15 : Value}
    (a0 : PySem.W.nsIn K mainGlobals "first_made" = some (some (.ref p0))) (l0 : K.lookup p0 = some ⟨oc0, od0, .func (PySem.W.fnOf "first_made" "first_made" (defArgs s0) (defBody s0) (defScope s0) .none kV0 dc0 pm0 an0 cd0 ct0), sl0⟩) (c0 : PySem.W.codeIn K cd0 "first_made" = true) (k0 : PySem.W.keepIn K (.ref p0) = true)
    (a1 : PySem.W.nsIn K mainGlobals "next_round" = some (some (.ref p1))) (l1 : K.lookup p1 = some ⟨oc1, od1, .func (PySem.W.fnOf "next_round" "next_round" (defArgs s1) (defBody s1) (defScope s1) .none kV1 dc1 pm1 an1 cd1 ct1), sl1⟩) (c1 : PySem.W.codeIn K cd1 "next_round" = true) (k1 : PySem.W.keepIn K (.ref p1) = true)
    (a2 : PySem.W.nsIn K mainGlobals "plain_values" = some (some (.ref p2))) (l2 : K.lookup p2 = some ⟨oc2, od2, .func (PySem.W.fnOf "plain_values" "plain_values" (defArgs s2) (defBody s2) (defScope s2) .none kV2 dc2 pm2 an2 cd2 ct2), sl2⟩) (c2 : PySem.W.codeIn K cd2 "plain_values" = true) (k2 : PySem.W.keepIn K (.ref p2) = true)
    (a3 : PySem.W.nsIn K mainGlobals "has_values" = some (some (.ref p3))) (l3 : K.lookup p3 = some ⟨oc3, od3, .func (PySem.W.fnOf "has_values" "has_values" (defArgs s3) (defBody s3) (defScope s3) .none kV3 dc3 pm3 an3 cd3 ct3), sl3⟩) (c3 : PySem.W.codeIn K cd3 "has_values" = true) (k3 : PySem.W.keepIn K (.ref p3) = true)
    (a4 : PySem.W.nsIn K mainGlobals "plain_value" = some (some (.ref p4))) (l4 : K.lookup p4 = some ⟨oc4, od4, .func (PySem.W.fnOf "plain_value" "plain_value" (defArgs s4) (defBody s4) (defScope s4) .none kV4 dc4 pm4 an4 cd4 ct4), sl4⟩) (c4 : PySem.W.codeIn K cd4 "plain_value" = true) (k4 : PySem.W.keepIn K (.ref p4) = true)
    (a5 : PySem.W.nsIn K mainGlobals "all_makes" = some (some (.ref p5))) (l5 : K.lookup p5 = some ⟨oc5, od5, .func (PySem.W.fnOf "all_makes" "all_makes" (defArgs s5) (defBody s5) (defScope s5) .none kV5 dc5 pm5 an5 cd5 ct5), sl5⟩) (c5 : PySem.W.codeIn K cd5 "all_makes" = true) (k5 : PySem.W.keepIn K (.ref p5) = true)
    (a6 : PySem.W.nsIn K mainGlobals "makes_of" = some (some (.ref p6))) (l6 : K.lookup p6 = some ⟨oc6, od6, .func (PySem.W.fnOf "makes_of" "makes_of" (defArgs s6) (defBody s6) (defScope s6) .none kV6 dc6 pm6 an6 cd6 ct6), sl6⟩) (c6 : PySem.W.codeIn K cd6 "makes_of" = true) (k6 : PySem.W.keepIn K (.ref p6) = true)
    (a7 : PySem.W.nsIn K mainGlobals "_law_pool" = some (some (.ref p7))) (l7 : K.lookup p7 = some ⟨oc7, od7, .func (PySem.W.fnOf "_law_pool" "_law_pool" (defArgs s7) (defBody s7) (defScope s7) .none kV7 dc7 pm7 an7 cd7 ct7), sl7⟩) (c7 : PySem.W.codeIn K cd7 "_law_pool" = true) (k7 : PySem.W.keepIn K (.ref p7) = true)
    (a8 : PySem.W.nsIn K mainGlobals "_law_next" = some (some (.ref p8))) (l8 : K.lookup p8 = some ⟨oc8, od8, .func (PySem.W.fnOf "_law_next" "_law_next" (defArgs s8) (defBody s8) (defScope s8) .none kV8 dc8 pm8 an8 cd8 ct8), sl8⟩) (c8 : PySem.W.codeIn K cd8 "_law_next" = true) (k8 : PySem.W.keepIn K (.ref p8) = true)
    (a9 : PySem.W.nsIn K mainGlobals "_law_cells" = some (some (.ref p9))) (l9 : K.lookup p9 = some ⟨oc9, od9, .func (PySem.W.fnOf "_law_cells" "_law_cells" (defArgs s9) (defBody s9) (defScope s9) .none kV9 dc9 pm9 an9 cd9 ct9), sl9⟩) (c9 : PySem.W.codeIn K cd9 "_law_cells" = true) (k9 : PySem.W.keepIn K (.ref p9) = true)
    (a10 : PySem.W.nsIn K mainGlobals "_law_spelt" = some (some (.ref p10))) (l10 : K.lookup p10 = some ⟨oc10, od10, .func (PySem.W.fnOf "_law_spelt" "_law_spelt" (defArgs s10) (defBody s10) (defScope s10) .none kV10 dc10 pm10 an10 cd10 ct10), sl10⟩) (c10 : PySem.W.codeIn K cd10 "_law_spelt" = true) (k10 : PySem.W.keepIn K (.ref p10) = true)
    (a11 : PySem.W.nsIn K mainGlobals "_law_any_name" = some (some (.ref p11))) (l11 : K.lookup p11 = some ⟨oc11, od11, .func (PySem.W.fnOf "_law_any_name" "_law_any_name" (defArgs s11) (defBody s11) (defScope s11) .none kV11 dc11 pm11 an11 cd11 ct11), sl11⟩) (c11 : PySem.W.codeIn K cd11 "_law_any_name" = true) (k11 : PySem.W.keepIn K (.ref p11) = true)
    (a12 : PySem.W.nsIn K mainGlobals "_law_names" = some (some (.ref p12))) (l12 : K.lookup p12 = some ⟨oc12, od12, .func (PySem.W.fnOf "_law_names" "_law_names" (defArgs s12) (defBody s12) (defScope s12) .none kV12 dc12 pm12 an12 cd12 ct12), sl12⟩) (c12 : PySem.W.codeIn K cd12 "_law_names" = true) (k12 : PySem.W.keepIn K (.ref p12) = true)
    (a13 : PySem.W.nsIn K mainGlobals "_law_book" = some (some (.ref p13))) (l13 : K.lookup p13 = some ⟨oc13, od13, .func (PySem.W.fnOf "_law_book" "_law_book" (defArgs s13) (defBody s13) (defScope s13) .none kV13 dc13 pm13 an13 cd13 ct13), sl13⟩) (c13 : PySem.W.codeIn K cd13 "_law_book" = true) (k13 : PySem.W.keepIn K (.ref p13) = true)
    (a14 : PySem.W.nsIn K mainGlobals "_law_is_value" = some (some (.ref p14))) (l14 : K.lookup p14 = some ⟨oc14, od14, .func (PySem.W.fnOf "_law_is_value" "_law_is_value" (defArgs s14) (defBody s14) (defScope s14) .none kV14 dc14 pm14 an14 cd14 ct14), sl14⟩) (c14 : PySem.W.codeIn K cd14 "_law_is_value" = true) (k14 : PySem.W.keepIn K (.ref p14) = true)
    (a15 : PySem.W.nsIn K mainGlobals "law" = some (some (.ref p15))) (l15 : K.lookup p15 = some ⟨oc15, od15, .func (PySem.W.fnOf "law" "law" (defArgs s15) (defBody s15) (defScope s15) .none kV15 dc15 pm15 an15 cd15 ct15), sl15⟩) (c15 : PySem.W.codeIn K cd15 "law" = true) (k15 : PySem.W.keepIn K (.ref p15) = true)
    (z0 : PySem.W.nsIn K mainGlobals "all" = some none)
    (z1 : PySem.W.nsIn K mainGlobals "tuple" = some none)
    (z2 : PySem.W.nsIn K mainGlobals "len" = some none)
    (z3 : PySem.W.nsIn K mainGlobals "max" = some none)
    (z4 : PySem.W.nsIn K mainGlobals "range" = some none)
    (z5 : PySem.W.nsIn K mainGlobals "min" = some none)
    (z6 : PySem.W.nsIn K mainGlobals "int" = some none)
    (z7 : PySem.W.nsIn K mainGlobals "list" = some none)
    (z8 : PySem.W.nsIn K mainGlobals "zip" = some none)
    (z9 : PySem.W.nsIn K mainGlobals "isinstance" = some none)
    (z10 : PySem.W.nsIn K mainGlobals "bool" = some none)
    {t0 : Tok} (y0 : PySem.W.nsIn K mainGlobals "NUM" = some (some (.str "num" t0)))
    (lv : Nat) : ∃ fd : FuncData, (∀ (s : Shared) (v : Value), BindsTo s fd ⟨[v], []⟩ [("script", v)]) ∧ ∀ base : Heap, K.In base → base.Ns mainGlobals mg → FnOk l.prog w K mg base CX0 (lv + 1) fa fd ["script"] (spT T K (lv + 1) 15) := by
  have e := hfa.symm.trans (PySem.W.mg_of X Gn a15)
  cases e
  have G : Gb mg := ⟨PySem.W.mg_none_of X Gn z0, PySem.W.mg_none_of X Gn z1, PySem.W.mg_none_of X Gn z2, PySem.W.mg_none_of X Gn z3, PySem.W.mg_none_of X Gn z4, PySem.W.mg_none_of X Gn z5, PySem.W.mg_none_of X Gn z6, PySem.W.mg_none_of X Gn z7, PySem.W.mg_none_of X Gn z8, PySem.W.mg_none_of X Gn z9, PySem.W.mg_none_of X Gn z10, ⟨_, PySem.W.mg_of X Gn y0⟩⟩
  refine ⟨PySem.W.fnOf "law" "law" (defArgs s15) (defBody s15) (defScope s15) .none kV15 dc15 pm15 an15 cd15 ct15, fun s v => .of_eq rfl, fun base _ _ => ?_⟩
  have en : ∀ i fd, T[i]? = some fd → Entry l.prog w K mg base T i fd.name := fun i fd h => match i, h with
    | 0, h => by obtain rfl : f0 = fd := Option.some.inj h; exact e0 G (fun_mk (st := s0) l0 c0 k0) (PySem.W.mg_of X Gn a0)
    | 1, h => by obtain rfl : f1 = fd := Option.some.inj h; exact e1 G (fun_mk (st := s1) l1 c1 k1) (PySem.W.mg_of X Gn a1)
    | 2, h => by obtain rfl : f2 = fd := Option.some.inj h; exact e2 G (fun_mk (st := s2) l2 c2 k2) (PySem.W.mg_of X Gn a2)
    | 3, h => by obtain rfl : f3 = fd := Option.some.inj h; exact e3 G (fun_mk (st := s3) l3 c3 k3) (PySem.W.mg_of X Gn a3)
    | 4, h => by obtain rfl : f4 = fd := Option.some.inj h; exact e4 G (fun_mk (st := s4) l4 c4 k4) (PySem.W.mg_of X Gn a4)
    | 5, h => by obtain rfl : f5 = fd := Option.some.inj h; exact e5 G (fun_mk (st := s5) l5 c5 k5) (PySem.W.mg_of X Gn a5)
    | 6, h => by obtain rfl : f6 = fd := Option.some.inj h; exact e6 G (fun_mk (st := s6) l6 c6 k6) (PySem.W.mg_of X Gn a6)
    | 7, h => by obtain rfl : f7 = fd := Option.some.inj h; exact e7 G (fun_mk (st := s7) l7 c7 k7) (PySem.W.mg_of X Gn a7)
    | 8, h => by obtain rfl : f8 = fd := Option.some.inj h; exact e8 G (fun_mk (st := s8) l8 c8 k8) (PySem.W.mg_of X Gn a8)
    | 9, h => by obtain rfl : f9 = fd := Option.some.inj h; exact e9 G (fun_mk (st := s9) l9 c9 k9) (PySem.W.mg_of X Gn a9)
    | 10, h => by obtain rfl : f10 = fd := Option.some.inj h; exact e10 G (fun_mk (st := s10) l10 c10 k10) (PySem.W.mg_of X Gn a10)
    | 11, h => by obtain rfl : f11 = fd := Option.some.inj h; exact e11 G (fun_mk (st := s11) l11 c11 k11) (PySem.W.mg_of X Gn a11)
    | 12, h => by obtain rfl : f12 = fd := Option.some.inj h; exact e12 G (fun_mk (st := s12) l12 c12 k12) (PySem.W.mg_of X Gn a12)
    | 13, h => by obtain rfl : f13 = fd := Option.some.inj h; exact e13 G (fun_mk (st := s13) l13 c13 k13) (PySem.W.mg_of X Gn a13)
    | 14, h => by obtain rfl : f14 = fd := Option.some.inj h; exact e14 G (fun_mk (st := s14) l14 c14 k14) (PySem.W.mg_of X Gn a14)
    | 15, h => by obtain rfl : f15 = fd := Option.some.inj h; exact e15 G (fun_mk (st := s15) l15 c15 k15) (PySem.W.mg_of X Gn a15)
    | n + 16, h => by cases h
  exact entry_fn (D := f15) rfl (fun_mk (st := s15) l15 c15 k15) sc15 (fun k cdv A outer s H E C => d15 G C) lv (tab_ok en lv)
end K07
set_option Elab.async false
open PySem PySem.W PyProof.Rows
set_option maxRecDepth 100000 in
set_option maxHeartbeats 0 in
theorem PySem.Challenge.cw_courtwide_k07_whole_a_value_or_no_end_holds : PySem.Challenge.rw_courtwide_k07_whole_a_value_or_no_end.Holds := by
  w_on; o_law; k_head; (case hw => w_witness2)
  k_fill
  refine Cw.law_walk (l := PySem.Challenge.rw_courtwide_k07_whole_a_value_or_no_end) (39 + 1) ⟨rfl, by decide, by decide⟩ K07.pure rfl rfl (fun w h Y => PySem.W.kIn_of Y) ?F
  case F =>
    intro w mg fa h KX G hmg
    refine' K07.all_mk KX G hmg ?a0 ?l0 ?c0 ?k0 ?a1 ?l1 ?c1 ?k1 ?a2 ?l2 ?c2 ?k2 ?a3 ?l3 ?c3 ?k3 ?a4 ?l4 ?c4 ?k4 ?a5 ?l5 ?c5 ?k5 ?a6 ?l6 ?c6 ?k6 ?a7 ?l7 ?c7 ?k7 ?a8 ?l8 ?c8 ?k8 ?a9 ?l9 ?c9 ?k9 ?a10 ?l10 ?c10 ?k10 ?a11 ?l11 ?c11 ?k11 ?a12 ?l12 ?c12 ?k12 ?a13 ?l13 ?c13 ?k13 ?a14 ?l14 ?c14 ?k14 ?a15 ?l15 ?c15 ?k15 ?z0 ?z1 ?z2 ?z3 ?z4 ?z5 ?z6 ?z7 ?z8 ?z9 ?z10 ?y0 39
    (case a0 => k_is); (case l0 => k_is); (case c0 => k_is); (case k0 => k_is)
    (case a1 => k_is); (case l1 => k_is); (case c1 => k_is); (case k1 => k_is)
    (case a2 => k_is); (case l2 => k_is); (case c2 => k_is); (case k2 => k_is)
    (case a3 => k_is); (case l3 => k_is); (case c3 => k_is); (case k3 => k_is)
    (case a4 => k_is); (case l4 => k_is); (case c4 => k_is); (case k4 => k_is)
    (case a5 => k_is); (case l5 => k_is); (case c5 => k_is); (case k5 => k_is)
    (case a6 => k_is); (case l6 => k_is); (case c6 => k_is); (case k6 => k_is)
    (case a7 => k_is); (case l7 => k_is); (case c7 => k_is); (case k7 => k_is)
    (case a8 => k_is); (case l8 => k_is); (case c8 => k_is); (case k8 => k_is)
    (case a9 => k_is); (case l9 => k_is); (case c9 => k_is); (case k9 => k_is)
    (case a10 => k_is); (case l10 => k_is); (case c10 => k_is); (case k10 => k_is)
    (case a11 => k_is); (case l11 => k_is); (case c11 => k_is); (case k11 => k_is)
    (case a12 => k_is); (case l12 => k_is); (case c12 => k_is); (case k12 => k_is)
    (case a13 => k_is); (case l13 => k_is); (case c13 => k_is); (case k13 => k_is)
    (case a14 => k_is); (case l14 => k_is); (case c14 => k_is); (case k14 => k_is)
    (case a15 => k_is); (case l15 => k_is); (case c15 => k_is); (case k15 => k_is)
    (case z0 => k_is)
    (case z1 => k_is)
    (case z2 => k_is)
    (case z3 => k_is)
    (case z4 => k_is)
    (case z5 => k_is)
    (case z6 => k_is)
    (case z7 => k_is)
    (case z8 => k_is)
    (case z9 => k_is)
    (case z10 => k_is)
    (case y0 => k_is)
